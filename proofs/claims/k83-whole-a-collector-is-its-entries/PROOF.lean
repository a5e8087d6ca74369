import PyProof.Rows.All
import Wide.All
import OpenK.AllK
import Wide.FinOn
import KE.KStateDown
import HandS.ForMost
import HandS.More
import HandS.Flow
import HandS.Style
import HandS.Wide
import HandS.WideBits
import HandS.IsInst
import HandS.Defaults
import HandS.FStr
import HandS.DictComp
import HandS.Walk
import HandS.Exc
import HandS.WordsExc
import HandS.Head0
import HandS.Head1
import HandS.Head2
import HandS.HeadEnd
import HandS.HeadHook1
import HandS.HeadHook2
import PyProof.ReprRoads
import KE.GoesEnum
import KE.GoesMore
import HandS.TupAny
import HandS.RaiseMore
import PyProof.StrLawsRepr
import PyProof.StrOps2
import PyProof.StrBlockL
import PyProof.Rows.RegStrFacts
import HandS.MakeKw
import HandS.HeadHook3
import HandS.TupMul
import HandS.SortKw
import OpenK.KOps
import KE.KCallOwn
import KE.KEqDict
import HandS.TupSets
import KE.KSortTupAny
import PyProof.InstNe
import HandS.Text
import KE.DataMinMax
import HandS.Lambda
import HandS.ExcInit
import HandS.ExcIs
import HandS.ExcField
import HandS.HotCalls
import HandS.EndTab
import HandS.HeadHook4
import HandS.SetFor
import HandS.TryOnly
import HandS.Strs
import KE.KAssignIn
import HandS.Zip0
import HandS.OwnEq
import PySem.Challenge.RW_tallyplans_k83_whole_a_collector_is_its
set_option Elab.async false
set_option linter.all false
set_option maxRecDepth 100000
set_option maxHeartbeats 4000000
namespace TP
open PySem PySem.Spec PyProof.Rows L2
/-! ### a def that is called where no repr is under way -/
structure FnG (P : Program) (w : World) (K : PySem.W.Frag) (mg : Str → Option Value) (base : Heap) (CX : CXT) (k : Nat) (f : Addr) (fd : FuncData) (ps : List Str) (sp : Sp) : Prop where
  len : ∀ vs H Q E, sp vs H Q E → vs.length = ps.length
  run : ∀ (A : Around) (outer : List Env) (s : Shared) (H : Hp) (args : Args) (us : List Value) (vs : List V) (Q : VK) (E : XK), Room k A → A.guards = some [] →
    Env0 P w K mg base A outer s H → BindsTo s fd args (ps.zip us) → Vals vs us → sp vs H Q E → codeAny (model P w) A (.call (.ref f) args) (CR CX outer P w H s Q E) s
section
variable {P : Program} {w : World} {K : PySem.W.Frag} {mg : Str → Option Value} {base : Heap} {CX : CXT} {j k : Nat} {f : Addr} {fd : FuncData} {ps : List Str} {sp sp' : Sp}
theorem FnG.imp (F : FnG P w K mg base CX k f fd ps sp) (h : ∀ vs H Q E, sp' vs H Q E → sp vs H Q E) : FnG P w K mg base CX k f fd ps sp' :=
  ⟨fun vs H Q E q => F.len vs H Q E (h _ _ _ _ q), fun A outer s H args us vs Q E hr hg e b r q => F.run A outer s H args us vs Q E hr hg e b r (h _ _ _ _ q)⟩
end
/-- the rule for a def, its body told with what is around it -/
theorem fnG_of {CX : CXT} {P : Program} {w : World} {K : PySem.W.Frag} {mg : Str → Option Value} {base : Heap} {k : Nat} {f : Addr} {x qual : Str} {params : Arguments} {body : List Stmt} {scope : Scope} {dvs : List V} {kws : List (Str × V)} {fd : FuncData} {N ps : List Str} {sp : Sp}
    (F : FunD K x qual params body scope dvs kws f fd) (S : FnScope N ps scope) (len : ∀ vs H Q E, sp vs H Q E → vs.length = ps.length)
    (hbody : ∀ (cdv : Value) (A : Around) (outer : List Env) (s : Shared) (H : Hp) (vs : List V) (Q : VK) (E : XK), Room k (A.deeper (envOfC qual scope s.heap.objs.size f cdv)) → (A.deeper (envOfC qual scope s.heap.objs.size f cdv)).guards = some [] → sp vs H Q E →
      ∃ t, PSs (cxOf CX P w K mg base N qual scope f cdv A outer s H E) body t ∧ t { nx := fun _ H' => Q .non H', rt := Q } (start N vs) H) :
    FnG P w K mg base CX (k + 1) f fd ps sp := by
  obtain ⟨oc, od, dV, kV, doc, pm, an, cdv, ct, osl, rfl, lk, hcd, _, _⟩ := F.ex
  refine ⟨len, fun A outer s H args us vs Q E hr hg e0 hb r hsp => ?_⟩
  have hl := len _ _ _ _ hsp
  have kx : K.In s.heap := e0.mod.kin.keeps fun b o e => (e0.bs b o e).1
  have nl : s.heap.NoLimit := e0.mod.nolimit.keeps fun b o e => (e0.bs b o e).1
  refine codeAny_call_function hr.depth (kx _ _ lk) rfl S.co S.gen rfl (PySem.W.codeRec_of kx hcd) (hb _ _ _ _ ?_)
  refine wpAny_newFunctionEnv_cells S.kind (fun ⟨n, v⟩ hy => by
    rcases S.par n (List.of_mem_zip hy).1 with q | q
    · exact .inl q
    · exact .inr ⟨q, PySem.W.cellsFrom_some _ _ _ (.inl q)⟩) fun env he s1 ic => ?_
  subst he
  refine ⟨nl.keeps ic.toInCall.keep, codeAny_func ?_⟩
  obtain ⟨t, ht, hq⟩ := hbody cdv A outer s H vs Q E (hr.deeper _) hg hsp
  have I0 := inv_start (CX := CX) (E := E) S hr.hd e0 hl r ic
  refine wpAny_mono (ht.run [] s1 (start N vs) H _ I0 hq) (fun fl s' hs => ?_) fun e s' hs => hs
  cases fl with
  | ret u =>
    obtain ⟨v, σ', H', J, rv, q⟩ := hs
    exact ⟨v, H', J.os, J.bare, J.base, J.hok, rv, q⟩
  | next =>
    obtain ⟨σ', H', J, q⟩ := hs
    exact ⟨.non, H', J.os, J.bare, J.base, J.hok, rfl, q⟩
  | brk =>
    obtain ⟨_, _, _, q⟩ := hs
    exact q.elim
  | cont =>
    obtain ⟨_, _, _, q⟩ := hs
    exact q.elim
/-! ### a def of the module, by its name -/
structure Has (P : Program) (w : World) (K : PySem.W.Frag) (mg : Str → Option Value) (base : Heap) (CX : CXT) (k : Nat) (x : Str) (st : Stmt) (ps : List Str) (sp : Sp) : Prop where
  ex : ∃ fd, FunD K x x (defArgs st) (defBody st) (defScope st) [] [] (He.ga K x) fd ∧ FnG P w K mg base CX k (He.ga K x) fd ps sp
  glo : mg x = some (.ref (He.ga K x))
/-- what the head tells of a def -/
structure Dfd (K : PySem.W.Frag) (mg : Str → Option Value) (x : Str) (st : Stmt) : Prop where
  ex : ∃ fd, FunD K x x (defArgs st) (defBody st) (defScope st) [] [] (He.ga K x) fd
  glo : mg x = some (.ref (He.ga K x))
section
variable {P : Program} {w : World} {K : PySem.W.Frag} {mg : Str → Option Value} {base : Heap} {CX : CXT} {k j : Nat} {x : Str} {st : Stmt} {N ps : List Str} {sp sp' : Sp}
theorem Dfd.has (D : Dfd K mg x st) (S : FnScope N ps (defScope st)) (len : ∀ vs H Q E, sp vs H Q E → vs.length = ps.length)
    (hbody : ∀ (cdv : Value) (A : Around) (outer : List Env) (s : Shared) (H : Hp) (vs : List V) (Q : VK) (E : XK), Room k (A.deeper (envOfC x (defScope st) s.heap.objs.size (He.ga K x) cdv)) → (A.deeper (envOfC x (defScope st) s.heap.objs.size (He.ga K x) cdv)).guards = some [] → sp vs H Q E →
      ∃ t, PSs (cxOf CX P w K mg base N x (defScope st) (He.ga K x) cdv A outer s H E) (defBody st) t ∧ t { nx := fun _ H' => Q .non H', rt := Q } (start N vs) H) :
    Has P w K mg base CX (k + 1) x st ps sp := by
  obtain ⟨fd, F⟩ := D.ex
  exact ⟨⟨fd, F, fnG_of F S len hbody⟩, D.glo⟩
theorem Has.imp (h : Has P w K mg base CX k x st ps sp) (i : ∀ vs H Q E, sp' vs H Q E → sp vs H Q E) : Has P w K mg base CX k x st ps sp' := by
  obtain ⟨fd, F, G⟩ := h.ex
  exact ⟨⟨fd, F, G.imp i⟩, h.glo⟩
end
section
variable {X : Cx} {CX : CXT} {k : Nat} {f : Addr} {fd : FuncData} {ps ks : List Str} {sp : Sp} {E : XK} {x : Str} {st : Stmt} {p pos : Pos} {e : Expr} {es : List Expr} {kws : List Keyword} {t tk : TA}
/-- how positional values bind where no default stands -/
def PosB (x : Str) (st : Stmt) (ps : List Str) : Prop := ∀ (kV doc pm : Value) (an : Option Addr) (cdv ct : Value) (us : List Value), us.length = ps.length →
  bindArgs (PySem.W.fnOf x x (defArgs st) (defBody st) (defScope st) .none kV doc pm an cdv ct) ⟨us, []⟩ = pure (ps.zip us)
/-- .. and keywords -/
def KwB (x : Str) (st : Stmt) (ps : List Str) (n : Nat) (ks : List Str) (g : {α : Type} → List α → List α → List α) : Prop := ∀ (kV doc pm : Value) (an : Option Addr) (cdv ct : Value) (us ws : List Value), us.length = n → ws.length = ks.length →
  bindArgs (PySem.W.fnOf x x (defArgs st) (defBody st) (defScope st) .none kV doc pm an cdv ct) ⟨us, ks.zip ws⟩ = pure (ps.zip (g us ws))
/-- f(e, .., k = v, ..) -/
def tCallW (sp : Sp) (n m : Nat) (g : {α : Type} → List α → List α → List α) (E : XK) (t tk : TA) : TE := fun σ H Q => t σ H fun vs H1 => tk σ H1 fun zs H2 => vs.length = n ∧ zs.length = m ∧ sp (g vs zs) H2 Q E
end
/-! ### the end of a law -/
section
variable {P : Program} {w : World} {K : PySem.W.Frag} {mg mb : Str → Option Value} {k : Nat} {fa a : Addr} {fd : FuncData} {x : Str} {sp : Sp} {s₁ : Shared} {vs : List Value} {ns : List Int}
end
end TP

namespace TP
open PySem PySem.Spec PyProof.Rows L2
/-! ### heaps -/
section
variable {H H' H1 : Hp} {p q : Addr} {o u : HO}
theorem hp_new (h : H p = some o) (hq : H q = none) : upd H q u p = some o := (upd_ne (ne_of_none h hq)).trans h
theorem same_new (hq : H q = none) : Same H (upd H q u) := fun b o h => hp_new h hq
end
/-- all but what stands at l is as it was -/
def SameB (l : Addr) (H H' : Hp) : Prop := ∀ b o, b ≠ l → H b = some o → H' b = some o
theorem SameB.trans {l : Addr} {H H1 H2 : Hp} (a : SameB l H H1) (b : SameB l H1 H2) : SameB l H H2 := fun c o n h => b c o n (a c o n h)
theorem SameB.upd {l : Addr} {H : Hp} {u : HO} : SameB l H (upd H l u) := fun b o n h => (upd_ne n).trans h
/-- tuples (and what is known of the script) are as they were -/
def SameT (H H' : Hp) : Prop := ∀ a o, H a = some o → (∀ xs, o ≠ .lst xs) → (∀ kvs, o ≠ .dK kvs) → H' a = some o
theorem same_t {H H' : Hp} (s : Same H H') : SameT H H' := fun a o h _ _ => s a o h
theorem SameT.trans {H H1 H2 : Hp} (a : SameT H H1) (b : SameT H1 H2) : SameT H H2 := fun c o h n m => b c o (a c o h n m) n m
theorem SameT.lst {H : Hp} {l : Addr} {xs : List V} {u : HO} (h : H l = some (.lst xs)) : SameT H (upd H l u) := fun a o e n _ => by
  by_cases z : a = l
  · subst z; rw [h] at e; cases e; exact absurd rfl (n xs)
  · exact (upd_ne z).trans e
theorem SameT.new {H : Hp} {l : Addr} {u : HO} (h : H l = none) : SameT H (upd H l u) := same_t (same_new h)
theorem SameT.sqt {K : PySem.W.Frag} {H H' : Hp} {a : Addr} {xs : List V} (s : SameT H H') (h : SqT K H a xs) : SqT K H' a xs := by
  rcases h with (h | ⟨o, h⟩) | h
  · exact .inl (.inl (s _ _ h (fun _ => nofun) fun _ => nofun))
  · exact .inl (.inr ⟨o, s _ _ h (fun _ => nofun) fun _ => nofun⟩)
  · exact .inr h
theorem sqt_same {K : PySem.W.Frag} {H H' : Hp} {a : Addr} {xs : List V} (s : Same H H') (h : SqT K H a xs) : SqT K H' a xs := (same_t s).sqt h
/-! ### data -/
mutual
theorem dp_same {K : PySem.W.Frag} {H H' : Hp} (s : Same H H') : ∀ {v : V} {d : PyData}, Dp K H v d → Dp K H' v d
  | _, _, .non => .non
  | _, _, .bl b => .bl b
  | _, _, .int i => .int i
  | _, _, .str x => .str x
  | _, _, .lst h r => .lst (s.seq h) (dps_same s r)
  | _, _, .tup h r => .tup (sqt_same s h) (dps_same s r)
theorem dps_same {K : PySem.W.Frag} {H H' : Hp} (s : Same H H') : ∀ {vs : List V} {ds : List PyData}, DpAll K H vs ds → DpAll K H' vs ds
  | _, _, .nil => .nil
  | _, _, .cons h r => .cons (dp_same s h) (dps_same s r)
end
mutual
/-- no list within -/
def flatD : PyData → Bool
  | .list _ => false
  | .dict _ => false
  | .tuple ds => flatDs ds
  | _ => true
def flatDs : List PyData → Bool
  | [] => true
  | d :: r => flatD d && flatDs r
end
mutual
theorem dp_flat {K : PySem.W.Frag} {H H' : Hp} (s : SameT H H') : ∀ {v : V} {d : PyData}, Dp K H v d → flatD d = true → Dp K H' v d
  | _, _, .non, _ => .non
  | _, _, .bl b, _ => .bl b
  | _, _, .int i, _ => .int i
  | _, _, .str x, _ => .str x
  | _, _, .lst h r, f => by simp [flatD] at f
  | _, _, .tup h r, f => .tup (s.sqt h) (dps_flat s r (by simpa [flatD] using f))
theorem dps_flat {K : PySem.W.Frag} {H H' : Hp} (s : SameT H H') : ∀ {vs : List V} {ds : List PyData}, DpAll K H vs ds → flatDs ds = true → DpAll K H' vs ds
  | _, _, .nil, _ => .nil
  | _, _, .cons h r, f => by
    have f2 := Bool.and_eq_true_iff.mp (show (flatD _ && flatDs _) = true from f)
    exact .cons (dp_flat s h f2.1) (dps_flat s r f2.2)
end
section
variable {K : PySem.W.Frag} {H : Hp}
end
/-! ### readings, one step at a time -/
section
variable {σ : L2.St} {H : Hp} {Q : VK} {QB : Bool → Hp → Prop} {QA : List V → Hp → Prop} {QO : Option Int → Hp → Prop} {ta tb tc te : TE} {tt tu : TT} {tr : TA} {D : Ends} {s t u : TS} {g : TG} {gs : TGs} {r r' : R2} {v x y : V} {E : XK} {sp : Sp}
def AllocT (xs : List V) (H : Hp) (Q : VK) : Prop := xs.length ≤ sizeLine ∧ ∀ p, H p = none → Q (.ref p) (upd H p (.tup xs))
def AllocL (xs : List V) (H : Hp) (Q : VK) : Prop := xs.length ≤ sizeLine ∧ ∀ p, H p = none → Q (.ref p) (upd H p (.lst xs))
def BlC (H : Hp) (v : V) (k : Bool → Prop) : Prop := ∃ c, v = .bl c ∧ k c
/-! methods of built-ins -/
end
end TP

namespace PySem
open Sem (wp)
end PySem
namespace TP
open PySem PySem.Spec PyProof.Rows L2
/-! ### enumerate of a tuple -/
def IteT (K : PySem.W.Frag) (a : Addr) : It :=
  ⟨fun i H => ∃ xs x, SqT K H a xs ∧ xs[i]? = some x, fun i H v H' => ∃ T x, v = .ref T ∧ H T = none ∧ H' = upd H T (.tup [.int (i : Nat), x]) ∧ ∀ xs, SqT K H a xs → xs[i]? = some x, fun i H => ∃ xs, SqT K H a xs ∧ xs.length = i⟩
def iEnumT (K : PySem.W.Frag) (ta : TA) : TI := fun σ H R => ta σ H fun vs H1 => ∃ a xs, vs = [.ref a] ∧ SqT K H1 a xs ∧ R (IteT K a) H1
end TP

namespace TP
open PySem PySem.Spec PyProof.Rows L2
/-! ### repr -/
mutual
/-- a bound of the shown text; 0 is never one -/
def rb : PyData → Nat
  | .none => 5
  | .bool _ => 5
  | .int _ => 1921
  | .str x => 10 * x.length + 2
  | .list ds => rbs ds + 2
  | .tuple ds => rbs ds + 3
  | .dict _ => 0
def rbs : List PyData → Nat
  | [] => 0
  | d :: r => rb d + 2 + rbs r
end
mutual
/-- ints of at most 1920 bits, texts of plain codes, no dict -/
def okD : PyData → Bool
  | .none => true
  | .bool _ => true
  | .int i => decide (i.natAbs.log2 < 1920)
  | .str x => x.cps.toList.all fun c => decide (c < 16 ^ 8)
  | .list ds => okDs ds
  | .tuple ds => okDs ds
  | .dict _ => false
def okDs : List PyData → Bool
  | [] => true
  | d :: r => okD d && okDs r
end
theorem str_app_len (a b : Str) : (a ++ b).length = a.length + b.length := PySem.Str.length_append a b
theorem textFrom_le : ∀ (ts : List Str) (k : Nat) (acc : Str), (textFrom k acc ts).length ≤ acc.length + (ts.map fun t => t.length + 2).sum
  | [], k, acc => by simp [textFrom]
  | t :: r, k, acc => by
    have ih := textFrom_le r (k + 1) (acc ++ (if k > 0 then ", " else "" : String) ++ t)
    rw [str_app_len, str_app_len] at ih
    have e : (Str.ofString (if k > 0 then ", " else "" : String)).length ≤ 2 := by
      by_cases h : k > 0
      · rw [if_pos h]; decide
      · rw [if_neg h]; decide
    simp only [List.map_cons, List.sum_cons]
    show (textFrom (k + 1) _ r).length ≤ _
    omega
mutual
theorem shown_le : ∀ d : PyData, okD d = true → d.shown.length ≤ rb d
  | .none, _ => by simp only [PyData.shown, rb]; decide
  | .bool b, _ => by cases b <;> simp only [PyData.shown, rb] <;> decide
  | .int i, h => by
    have h' : i.natAbs.log2 < 1920 := of_decide_eq_true (by simpa [okD] using h)
    simp only [PyData.shown, rb]
    exact int_text_len_1921 h'
  | .str x, h => by
    simp only [PyData.shown, rb]
    refine PySem.StrLaws.reprText_len x fun c hc => ?_
    have h' := List.all_eq_true.mp (by simpa only [okD] using h) c hc
    exact of_decide_eq_true h'
  | .list ds, h => by
    have ih := shownAll_le ds (by simpa [okD] using h)
    simp only [PyData.shown, rb, listText]
    have h1 := textFrom_le (PyData.shownAll ds) 0 "["
    rw [str_app_len]
    have e1 : (Str.ofString "[").length = 1 := by decide
    have e2 : (Str.ofString "]").length = 1 := by decide
    rw [e1] at h1
    rw [e2]
    omega
  | .tuple ds, h => by
    have ih := shownAll_le ds (by simpa [okD] using h)
    simp only [PyData.shown, rb, tupleText]
    rw [str_app_len, str_app_len]
    have h1 := StrLaws.join_length_le (Str.ofString ", ") (PyData.shownAll ds)
    have e0 : (Str.ofString ", ").length = 2 := by decide
    rw [e0] at h1
    have e1 : (Str.ofString "(").length = 1 := by decide
    have e2 : (Str.ofString (if ((PyData.shownAll ds).length == 1) = true then ",)" else ")")).length ≤ 2 := by
      by_cases z : ((PyData.shownAll ds).length == 1) = true
      · rw [if_pos z]; decide
      · rw [if_neg z]; decide
    have e3 : ((PyData.shownAll ds).map fun t => t.length + 2).sum = ((PyData.shownAll ds).map (·.length)).sum + (PyData.shownAll ds).length * 2 := by
      generalize PyData.shownAll ds = l
      induction l with
      | nil => rfl
      | cons a r ih2 => simp only [List.map_cons, List.sum_cons, List.length_cons]; omega
    rw [e1]
    omega
  | .dict _, h => by simp [okD] at h
theorem shownAll_le : ∀ ds : List PyData, okDs ds = true → ((PyData.shownAll ds).map fun t => t.length + 2).sum ≤ rbs ds
  | [], _ => by simp [PyData.shownAll, rbs]
  | d :: r, h => by
    have h' := Bool.and_eq_true_iff.mp (show (okD d && okDs r) = true from h)
    have h1 := shown_le d h'.1
    have h2 := shownAll_le r h'.2
    simp only [PyData.shownAll, rbs, List.map_cons, List.sum_cons]
    omega
end
mutual
theorem showable_of : ∀ d : PyData, okD d = true → d.showable = true ∧ d.hasDict = false
  | .none, _ => by simp [PyData.showable, PyData.hasDict]
  | .bool b, _ => by simp [PyData.showable, PyData.hasDict]
  | .int i, h => by simp only [PyData.showable, PyData.hasDict]; exact ⟨by simpa [okD] using h, trivial⟩
  | .str x, _ => by simp [PyData.showable, PyData.hasDict]
  | .list ds, h => by
    have ih := showables_of ds (by simpa [okD] using h)
    simp only [PyData.showable, PyData.hasDict]; exact ih
  | .tuple ds, h => by
    have ih := showables_of ds (by simpa [okD] using h)
    simp only [PyData.showable, PyData.hasDict]; exact ih
  | .dict _, h => by simp [okD] at h
theorem showables_of : ∀ ds : List PyData, okDs ds = true → PyData.showableAll ds = true ∧ PyData.hasDictAll ds = false
  | [], _ => by simp [PyData.showableAll, PyData.hasDictAll]
  | d :: r, h => by
    have h' := Bool.and_eq_true_iff.mp (show (okD d && okDs r) = true from h)
    have h1 := showable_of d h'.1
    have h2 := showables_of r h'.2
    simp [PyData.showableAll, PyData.hasDictAll, h1, h2]
end
/-- what may be shown -/
structure Shows (d : PyData) : Prop where
  ok : okD d = true
  len : rb d ≤ 16777216
  deep : d.depth ≤ 60
def rRepr (K : PySem.W.Frag) : List V → Hp → VK → Prop := fun xs H Q => ∃ v d, xs = [v] ∧ Dp K H v d ∧ Shows d ∧ Q (.str d.shown) H
/-! ### isinstance -/
def tyD : PyData → String
  | .none => "NoneType"
  | .bool _ => "bool"
  | .int _ => "int"
  | .str _ => "str"
  | .list _ => "list"
  | .tuple _ => "tuple"
  | .dict _ => "dict"
theorem ty_dp {K : PySem.W.Frag} {H : Hp} {v : V} {d : PyData} (h : Dp K H v d) : TyX K H v (.type (tyD d)) := by
  cases h with
  | non => exact .base .non
  | bl b => exact .base (.bl b)
  | int i => exact .base (.int i)
  | str x => exact .base (.str x)
  | lst h _ =>
    rcases h with (h | ⟨o, h⟩) | ⟨o, its, n, h, c, _⟩
    · exact .base (.lst h)
    · exact .base (.frz h)
    · exact .kList h c
  | tup h _ =>
    rcases h with (h | ⟨o, h⟩) | ⟨o, its, n, h, c, _⟩
    · exact .base (.tup h)
    · exact .fTuple h
    · exact .kTuple h c
/-! ### a text times a number -/
def repS (n : Nat) (x : Str) : Str := ⟨((List.replicate n x.cps.toList).flatten).toArray⟩
end TP

namespace TP
open PySem PySem.Spec PyProof.Rows L2
/-! ### a pool of draws: a list of three ints, known only so far as every draw keeps it -/
def PoolV (s d c : Int) : Prop := 0 ≤ s ∧ s < 1000000007 ∧ 0 ≤ d ∧ 0 ≤ c
def PoolAt (p : Addr) (h : Heap) : Prop := ∃ (s d c : Int) (its : List Value) (n : Nat), Vals [.int s, .int d, .int c] its ∧ PoolV s d c ∧ h.get? p = some { cls := .type "list", data := .seq its.toArray n }
def poolO (p : Addr) : HO := .ext (PoolAt p)
section
variable {P : Program} {w : World} {H H0 : Hp} {h h' : Heap} {p : Addr}
end
/-- draw(pool, many), by what stands in the list -/
def spDrawC : Sp := fun vs H Q _ => ∃ (p : Addr) (s d c m : Int), vs = [.ref p, .int m] ∧ H p = some (.lst [.int s, .int d, .int c]) ∧ PoolV s d c ∧ 0 < m ∧ m < 2 ^ 200 ∧
  ∀ (r s' d' c' : Int) (H' : Hp), 0 ≤ r → r < m → SameB p H H' → H' p = some (.lst [.int s', .int d', .int c']) → PoolV s' d' c' → Q (.int r) H'
/-- .. by what may be known of it -/
def spDraw : Sp := fun vs H Q _ => ∃ (p : Addr) (m : Int), vs = [.ref p, .int m] ∧ H p = some (poolO p) ∧ 0 < m ∧ m < 2 ^ 200 ∧
  ∀ (r : Int) (H' : Hp), 0 ≤ r → r < m → Same H H' → Q (.int r) H'
def spPoolC : Sp := fun vs H Q _ => ∃ n : Int, vs = [.int n] ∧ ∀ (p : Addr) (s d c : Int) (H' : Hp), H p = none → Same H H' → H' p = some (.lst [.int s, .int d, .int c]) → PoolV s d c → Q (.ref p) H'
def spPool : Sp := fun vs H Q _ => ∃ n : Int, vs = [.int n] ∧ ∀ (p : Addr) (H' : Hp), H p = none → Same H H' → H' p = some (poolO p) → Q (.ref p) H'
section
variable {P : Program} {w : World} {K : PySem.W.Frag} {mg : Str → Option Value} {base : Heap} {k : Nat} {f : Addr} {fd : FuncData} {ps : List Str}
end
section
variable {P : Program} {w : World} {K : PySem.W.Frag} {mg : Str → Option Value} {base : Heap} {k : Nat} {x : Str} {st : Stmt} {ps : List Str}
end
/-! ### loops and comprehensions over what is walked -/
section
variable {J : It} {n : Nat} {G : Hp → Prop} {Y : Nat → Hp → V → Hp → Prop} {g : TG} {tt : TT} {te : TE} {vs : List Nat} {σ : L2.St} {H1 : Hp} {D : Addr} {Q : VK}
end
end TP

namespace TP
open PySem PySem.Spec PyProof.Rows L2
/-! ### loops and comprehensions, in parts -/
def ForOk (J : It) (g : TG) (tb : TS) (D : Ends) (σ : L2.St) (H : Hp) : Prop := ∃ W : Nat → Nat → L2.St → Hp → Prop, (∃ m, W 0 m σ H) ∧ ∀ i m σ H, W i m σ H →
  (J.stop i H ∧ D.nx σ H) ∨ (J.go i H ∧ ∃ N : L2.St → Hp → Prop, (∀ σ' H', N σ' H' → ∃ m', m' < m ∧ W (i + 1) m' σ' H') ∧ ∀ x H', J.yld i H x H' → g x σ H' fun σ2 H2 => tb { D with nx := N, ct := N, bk := D.nx } σ2 H2)
def LcI (H1 : Hp) (D : Addr) (Acc : Nat → List V → Hp → Prop) (i : Nat) (H : Hp) : Prop := ∃ acc, Same H1 H ∧ H D = some (.lst acc) ∧ acc.length ≤ i ∧ Acc i acc H
def LcY (H1 : Hp) (D : Addr) (Acc : Nat → List V → Hp → Prop) (i : Nat) (y : V) (H : Hp) : Prop := ∃ acc, H D = some (.lst acc) ∧ acc.length < sizeLine ∧ LcI H1 D Acc (i + 1) (upd H D (.lst (acc ++ [y])))
def LcOk (J : It) (g : TG) (tt : TT) (te : TE) (vs : List Nat) (σ : L2.St) (H1 : Hp) (D : Addr) (Q : VK) : Prop := ∃ W : Nat → Nat → Hp → Prop, (∃ m, W 0 m (upd H1 D (.lst []))) ∧ ∀ i m H, W i m H →
  (J.stop i H ∧ Q (.ref D) H) ∨ (J.go i H ∧ ∃ Nx : Hp → Prop, (∀ H', Nx H' → ∃ m', m' < m ∧ W (i + 1) m' H') ∧ ∀ x H', J.yld i H x H' → g x (wipe σ vs) H' fun σ2 H2 => wipe σ2 vs = wipe σ vs ∧ tt σ2 H2 fun b H3 =>
    if b = true then te σ2 H3 fun y H4 => ∃ acc, H4 D = some (.lst acc) ∧ acc.length < sizeLine ∧ Nx (upd H4 D (.lst (acc ++ [y]))) else Nx H3)
section
variable {J : It} {n : Nat} {G : Hp → Prop} {Y : Nat → Hp → V → Hp → Prop} {g : TG} {tt : TT} {te : TE} {tb : TS} {De : Ends} {wi : TI} {vs : List Nat} {σ : L2.St} {H H1 H2 : Hp} {D : Addr} {Q : VK} {Acc : Nat → List V → Hp → Prop} {K : PySem.W.Frag}
/-! what is walked -/
def OnT (K : PySem.W.Frag) (R : It → Hp → Prop) (v : V) (H : Hp) : Prop := ∃ a, v = .ref a ∧ (∃ xs, SqT K H a xs) ∧ R (Itt K a) H
def OnL (K : PySem.W.Frag) (R : It → Hp → Prop) (v : V) (H : Hp) : Prop := ∃ a, v = .ref a ∧ (∃ xs, SqL K H a xs) ∧ R (Itl K a) H
def OnS (R : It → Hp → Prop) (v : V) (H : Hp) : Prop := ∃ x, v = .str x ∧ R (Its x) H
def OnR1 (R : It → Hp → Prop) (vs : List V) (H : Hp) : Prop := ∃ j : Int, vs = [.int j] ∧ -(2 ^ 62) ≤ j ∧ j < 2 ^ 62 ∧ R (Itr 0 j.toNat) H
def OnR2 (R : It → Hp → Prop) (vs : List V) (H : Hp) : Prop := ∃ i j : Int, vs = [.int i, .int j] ∧ (-(2 ^ 62) ≤ i ∧ i < 2 ^ 62 ∧ -(2 ^ 62) ≤ j ∧ j < 2 ^ 62) ∧ R (Itr i (j - i).toNat) H
def OnE (K : PySem.W.Frag) (R : It → Hp → Prop) (vs : List V) (H : Hp) : Prop := ∃ a xs, vs = [.ref a] ∧ SqT K H a xs ∧ R (IteT K a) H
variable {R : It → Hp → Prop} {ta : TA} {a : Addr} {xs : List V}
end
/-! ### built-ins, their readings by names -/
def rLenV (K : PySem.W.Frag) : List V → Hp → VK → Prop := fun xs H Q => ∃ x n, xs = [x] ∧ LenV K x H n ∧ Q (.int n) H
def rAbs : List V → Hp → VK → Prop := fun xs H Q => ∃ i, xs = [.int i] ∧ Q (.int (if i < 0 then -i else i)) H
def rMx2 : List V → Hp → VK → Prop := fun xs H Q => ∃ i j, xs = [.int i, .int j] ∧ Q (.int (if j > i then j else i)) H
def rMn2 : List V → Hp → VK → Prop := fun xs H Q => ∃ i j, xs = [.int i, .int j] ∧ Q (.int (if j < i then j else i)) H
def rInt1 : List V → Hp → VK → Prop := fun xs H Q => (∃ i, xs = [.int i] ∧ Q (.int i) H) ∨ ∃ k, xs = [.bl k] ∧ Q (.int (if k then 1 else 0)) H
def rListS (K : PySem.W.Frag) : List V → Hp → VK → Prop := fun xs H Q => ∃ p ys, xs = [.ref p] ∧ (SqL K H p ys ∨ SqT K H p ys) ∧ ∀ l, H l = none → Q (.ref l) (upd H l (.lst ys))
def rTupS (K : PySem.W.Frag) : List V → Hp → VK → Prop := fun xs H Q => ∃ p ys, xs = [.ref p] ∧ ((SqL K H p ys ∧ ∀ l, H l = none → Q (.ref l) (upd H l (.tup ys))) ∨ (SqT K H p ys ∧ Q (.ref p) H))
def rDivW : List V → Hp → VK → Prop := fun xs H Q => ∃ i j, xs = [.int i, .int j] ∧ CDivP i j ∧ ∀ p, H p = none → Q (.ref p) (upd H p (.tup [.int (i / j), .int (i % j)]))
def rInSign : R2 := fun x y H Q => ∃ (c : Nat) (z : Str), x = .str ⟨#[c]⟩ ∧ y = .str z ∧ Q (.bl (decide (c ∈ z.cps.toList))) H
def rNotInSign : R2 := fun x y H Q => ∃ (c : Nat) (z : Str), x = .str ⟨#[c]⟩ ∧ y = .str z ∧ Q (.bl (!decide (c ∈ z.cps.toList))) H
def rIsN : R2 := fun x y H Q => y = .non ∧ Q (.bl (decide (x = .non))) H
def rNotN : R2 := fun x y H Q => y = .non ∧ Q (.bl (!decide (x = .non))) H
def rLtS : R2 := fun x y H Q => ∃ i j, x = .str i ∧ y = .str j ∧ Q (.bl (decide (i.cps.toList < j.cps.toList))) H
def rLeS : R2 := fun x y H Q => ∃ i j, x = .str i ∧ y = .str j ∧ Q (.bl (!decide (j.cps.toList < i.cps.toList))) H
def rAddS : R2 := fun x y H Q => ∃ i j, x = .str i ∧ y = .str j ∧ i.length + j.length ≤ sizeLine ∧ Q (.str (i ++ j)) H
def rMulS : R2 := fun x y H Q => ∃ (z : Str) (n : Nat), x = .str z ∧ y = .int (n : Nat) ∧ z.length * n ≤ 100000 ∧ n ≤ 100000 ∧ Q (.str (repS n z)) H
def rJoin (K : PySem.W.Frag) : V → List V → Hp → VK → Prop := fun x xs H Q => ∃ a p, ∃ ys : List Str, x = .str a ∧ xs = [.ref p] ∧ (SqL K H p (ys.map V.str) ∨ SqT K H p (ys.map V.str)) ∧ (ys.map (·.length)).sum + ys.length * a.length ≤ 16777216 ∧ Q (.str (Txt.join a ys)) H
section
variable {X : Cx}
end
section
variable {σ : L2.St} {H : Hp} {Q : VK} {K : PySem.W.Frag} {v x y : V} {a p : Addr} {xs ys : List V}
end
end TP

namespace TP
open PySem PySem.Spec PyProof.Rows L2
/-- the built-in names that the module leaves free -/
structure Fre (mg : Str → Option Value) : Prop where
  len_ : mg "len" = none
  isinstance_ : mg "isinstance" = none
  range_ : mg "range" = none
  enumerate_ : mg "enumerate" = none
  zip_ : mg "zip" = none
  reversed_ : mg "reversed" = none
  int_ : mg "int" = none
  str_ : mg "str" = none
  bool_ : mg "bool" = none
  tuple_ : mg "tuple" = none
  list_ : mg "list" = none
  dict_ : mg "dict" = none
  bytes_ : mg "bytes" = none
  set_ : mg "set" = none
  sum_ : mg "sum" = none
  all_ : mg "all" = none
  any_ : mg "any" = none
  abs_ : mg "abs" = none
  min_ : mg "min" = none
  max_ : mg "max" = none
  sorted_ : mg "sorted" = none
  repr_ : mg "repr" = none
  divmod_ : mg "divmod" = none
  type_ : mg "type" = none
  map_ : mg "map" = none
  iter_ : mg "iter" = none
  next_ : mg "next" = none
/-! ### small steps -/
section
variable {σ : L2.St} {H : Hp} {Q : VK} {QO : Option Int → Hp → Prop} {tr tk : TA} {te : TE} {D : Ends} {sp : Sp} {E : XK}
def Par2 (k : V → V → Prop) (vs : List V) : Prop := ∃ v w, vs = [v, w] ∧ k v w
def Par3 (k : V → V → V → Prop) (vs : List V) : Prop := ∃ u v w, vs = [u, v, w] ∧ k u v w
def IntC (x : V) (k : Int → Prop) : Prop := ∃ i, x = .int i ∧ k i
def KwC (n m : Nat) (g : {α : Type} → List α → List α → List α) (vs zs : List V) (k : List V → Prop) : Prop := vs.length = n ∧ zs.length = m ∧ k (g vs zs)
end
end TP

namespace TP
open PySem PySem.Spec PyProof.Rows L2
/-! ### kinds of data -/
def wholeD : PyData → Bool
  | .int _ => true
  | _ => false
def isIntD : PyData → Bool
  | .int _ => true
  | .bool _ => true
  | _ => false
def isBoolD : PyData → Bool
  | .bool _ => true
  | _ => false
def isStrD : PyData → Bool
  | .str _ => true
  | _ => false
def isTupD : PyData → Bool
  | .tuple _ => true
  | _ => false
mutual
/-- texts of at most 100000 signs -/
def szD : PyData → Bool
  | .str x => decide (x.length ≤ 100000)
  | .list ds => szDs ds
  | .tuple ds => szDs ds
  | _ => true
def szDs : List PyData → Bool
  | [] => true
  | d :: r => szD d && szDs r
end
def letters : Str := "abcdefghijklmnopqrstuvwxyz"
def isLet (c : Nat) : Bool := decide (97 ≤ c) && decide (c ≤ 122)
def isName (x : Str) : Bool := decide (0 < x.length) && (decide (x.length < 9) && x.cps.toList.all isLet)
def nameD : PyData → Bool
  | .str x => isName x
  | _ => false
def fromD (d : PyData) (j : Int) : Bool := match d with
  | .int i => decide (j ≤ i)
  | _ => false
def runD : PyData → Bool
  | .tuple [a, b] => nameD a && fromD b 1
  | _ => false
/-- the name of a pair -/
def nmD : PyData → Str
  | .tuple (.str x :: _) => x
  | _ => Str.empty
def ltS (x y : Str) : Prop := x.cps.toList < y.cps.toList
instance (x y : Str) : Decidable (ltS x y) := inferInstanceAs (Decidable (x.cps.toList < y.cps.toList))
/-- the element at i is bad: too many, no run, or not behind the one before -/
def badAt (ds : List PyData) (m : Int) (i : Nat) : Bool := decide (m ≤ (i : Int)) || (!runD (ds.getD i .none) || (decide (0 < i) && !decide (ltS (nmD (ds.getD (i - 1) .none)) (nmD (ds.getD i .none)))))
def firstBad (ds : List PyData) (m : Int) : Option Nat := (List.range ds.length).find? (badAt ds m)
def optV : Option Nat → V
  | none => .non
  | some i => .int (i : Nat)
def countsD : PyData → Bool
  | .tuple ds => (firstBad ds 12).isNone
  | _ => false
/-! ### bags: pairs of a name and a number -/
abbrev Bag := List (Str × Int)
def pairD (p : Str × Int) : PyData := .tuple [.str p.1, .int p.2]
def bagD (ps : Bag) : PyData := .tuple (ps.map pairD)
def sumC (ps : Bag) : Int := (ps.map (·.2)).sum
/-- counts: names that ascend, numbers from 1 on -/
structure BagOk (ps : Bag) : Prop where
  asc : ps.Pairwise fun a b => ltS a.1 b.1
  nam : ∀ p ∈ ps, isName p.1 = true
  pos : ∀ p ∈ ps, 1 ≤ p.2
/-! the pairs in the heap -/
section
variable {K : PySem.W.Frag} {H : Hp}
end
theorem flat_bag (ps : Bag) : flatD (bagD ps) = true := by
  unfold bagD flatD
  induction ps with
  | nil => rfl
  | cons p r ih => show (flatD (pairD p) && flatDs (r.map pairD)) = true; rw [ih]; rfl
/-! tables -/
def getT (t : Bag) (n : Str) : Int := ((t.find? fun p => decide (p.1 = n)).map (·.2)).getD 0
def putT (t : Bag) (n : Str) (c : Int) : Bag := if (t.any fun p => decide (p.1 = n)) = true then t.map (fun p => if p.1 = n then (p.1, c) else p) else t ++ [(n, c)]
def addT (t : Bag) (p : Str × Int) : Bag := putT t p.1 (getT t p.1 + p.2)
def tabOf (ps : Bag) : Bag := ps.foldl addT []
def kvOf (t : Bag) : List (Key × V) := t.map fun p => (Sum.inr p.1, V.int p.2)
/-- what a table holds of a name, and what was put in -/
def cntC (ps : Bag) (n : Str) : Int := ((ps.filter fun p => decide (p.1 = n)).map (·.2)).sum
end TP

namespace TP
open PySem PySem.Spec PyProof.Rows L2
/-! ### names that are drawn -/
/-- a text of letters -/
def lets (x : Str) : Prop := ∀ c ∈ x.cps.toList, isLet c = true
def menuW : List Str := ["more", "less", "sum", "few", "many", "gain", "columns", "range", "order", "merge", "a", "b", "c", "x", "y"]
def wordA (b i : Nat) : Str := menuW.getD ((b + 4 * i) % 15) Str.empty
def wordB (b i : Nat) : Str := repS (1 + i % 8) ⟨#[97 + (b + 7 * i) % 26]⟩
def wordC (b : Nat) (l r : List Nat) (i : Nat) : Str := ⟨(l ++ (97 + (b + 5 * i) % 26) :: r).toArray⟩
/-- names that differ -/
structure WordsOk (ws : List Str) (n : Nat) : Prop where
  len : ws.length = n
  nd : ws.Nodup
  nam : ∀ w ∈ ws, isName w = true
/-! ### the order of texts -/
theorem ltS_irrefl (a : Str) : ¬ ltS a a := List.lt_irrefl _
theorem ltS_ne {a b : Str} (h : ltS a b) : a ≠ b := fun e => by subst e; exact ltS_irrefl _ h
end TP

namespace TP
open PySem PySem.Spec PyProof.Rows L2
/-! ### the rules with the written part told -/
section
variable {X : Cx} (K : PySem.W.Frag)
variable {o e a b : Expr} {to te ta tb : TE} {apos cpos pos p tpos : Pos} {es : List Expr} {t : TA} {tg : Expr} {rest : List Expr}
end
/-! ### comprehensions of scalars, with or without a test -/
section
variable {J : It} {n : Nat} {G : Hp → Prop} {Y : Nat → Hp → V → Hp → Prop} {g : TG} {tt : TT} {te : TE} {vs : List Nat} {σ : L2.St} {H1 : Hp} {D : Addr} {Q : VK} {α : Type}
end
/-! ### comprehensions of data -/
section
variable {J : It} {n : Nat} {G : Hp → Prop} {Y : Nat → Hp → V → Hp → Prop} {g : TG} {te : TE} {vs : List Nat} {σ : L2.St} {H1 : Hp} {D : Addr} {Q : VK} {K : PySem.W.Frag}
end
/-! ### what bags show -/
/-- names and numbers that can be shown -/
def BagS (ps : Bag) : Prop := ∀ p ∈ ps, isName p.1 = true ∧ 0 ≤ p.2 ∧ p.2 ≤ 10 ^ 100
theorem BagOk.s {ps : Bag} (h : BagOk ps) (hc : ∀ p ∈ ps, p.2 ≤ 10 ^ 100) : BagS ps := fun p hp => ⟨h.nam p hp, by have := h.pos p hp; omega, hc p hp⟩
/-- the signs of a text, each a text -/
def signs1 (x : Str) : List Str := x.cps.toList.map fun c => ⟨#[c]⟩
/-! ### the end: the law's own function object -/
end TP

namespace TP
open PySem PySem.Spec PyProof.Rows L2
/-! ### t[::c] of a tuple -/
def stepLo (c : Int) (n : Nat) : Int := if c < 0 then (n : Int) - 1 else 0
def stepHi (c : Int) (n : Nat) : Int := if c < 0 then -1 else (n : Int)
def stepIx (c : Int) (n : Nat) : List Nat := (List.range (Builtin.Slice.slicePlaces (stepLo c n) (stepHi c n) c)).map fun (k : Nat) => (stepLo c n + (k : Int) * c).toNat
def stepL {α : Type} (c : Int) (xs : List α) : List α := (stepIx c xs.length).filterMap fun k => xs[k]?
section
variable {prog : Program} {w : World} {A : Around} {E : Value → Shared → Prop} {s : Shared}
end
def tStepT (K : PySem.W.Frag) (c : Int) (te : TE) : TE := fun σ H Q => te σ H fun x H1 => ∃ a xs, x = .ref a ∧ SqT K H1 a xs ∧ (stepL c xs).length ≤ sizeLine ∧ ∀ p, H1 p = none → Q (.ref p) (upd H1 p (.tup (stepL c xs)))
section
variable {X : Cx} {e : Expr} {te : TE} {k : Nat} {p1 p2 p3 pos : Pos} (K : PySem.W.Frag)
end
/-! ### comprehensions of data, with a test -/
section
variable {J : It} {n : Nat} {G : Hp → Prop} {Y : Nat → Hp → V → Hp → Prop} {g : TG} {tt : TT} {te : TE} {vs : List Nat} {σ : L2.St} {H1 : Hp} {D : Addr} {Q : VK} {α : Type}
end
/-! ### the one ascending bag of given counts -/
structure IsCan (f : Str → Int) (ps : Bag) : Prop where
  asc : ps.Pairwise fun a b => ltS a.1 b.1
  pos : ∀ p ∈ ps, 0 < p.2
  cnt : ∀ n, getT ps n = f n
theorem asc_nodup {ps : Bag} (h : ps.Pairwise fun a b => ltS a.1 b.1) : (ps.map (·.1)).Nodup := by
  unfold List.Nodup
  rw [List.pairwise_map]
  exact h.imp fun h => ltS_ne h
/-! ### the different names, in the order in which they come -/
def addN (l : List Str) (n : Str) : List Str := if n ∈ l then l else l ++ [n]
def namesOf (ns : List Str) : List Str := ns.foldl addN []
def kvN (l : List Str) : List (Key × V) := l.map fun n => (Sum.inr n, V.bl true)
theorem addN_len (l : List Str) (n : Str) : (addN l n).length ≤ l.length + 1 ∧ l.length ≤ (addN l n).length := by
  unfold addN
  split <;> simp
theorem addN_mem {l : List Str} {n x : Str} : x ∈ addN l n ↔ x ∈ l ∨ x = n := by
  unfold addN
  split
  · rename_i h
    exact ⟨.inl, fun z => z.elim id fun e => e ▸ h⟩
  · simp
theorem addN_nodup {l : List Str} {n : Str} (h : l.Nodup) : (addN l n).Nodup := by
  unfold addN
  split
  · exact h
  · rename_i hn
    rw [List.nodup_append]
    exact ⟨h, by simp, fun a ha b hb e => by rw [List.mem_singleton] at hb; subst hb; exact hn (e ▸ ha)⟩
theorem namesOf_aux : ∀ (ns acc : List Str), acc.Nodup → (ns.foldl addN acc).Nodup ∧ (∀ x, x ∈ ns.foldl addN acc ↔ x ∈ acc ∨ x ∈ ns) ∧ acc.length ≤ (ns.foldl addN acc).length ∧ (ns.foldl addN acc).length ≤ acc.length + ns.length
  | [], acc, h => ⟨h, by simp, by simp, by simp⟩
  | n :: r, acc, h => by
    obtain ⟨h1, h2, h3, h4⟩ := namesOf_aux r (addN acc n) (addN_nodup h)
    have hl := addN_len acc n
    refine ⟨h1, fun x => ?_, by simp only [List.foldl_cons]; omega, by simp only [List.foldl_cons, List.length_cons]; omega⟩
    rw [List.foldl_cons, h2, addN_mem, List.mem_cons, or_assoc]
theorem namesOf_nodup (ns : List Str) : (namesOf ns).Nodup := (namesOf_aux ns [] List.nodup_nil).1
theorem namesOf_mem {ns : List Str} {x : Str} : x ∈ namesOf ns ↔ x ∈ ns := by have := (namesOf_aux ns [] List.nodup_nil).2.1 x; simpa [namesOf] using this
theorem nodup_sub_len {α : Type} [DecidableEq α] : ∀ {a b : List α}, a.Nodup → (∀ x ∈ a, x ∈ b) → a.length ≤ b.length
  | [], b, _, _ => Nat.zero_le _
  | x :: r, b, nd, h => by
    have nd' := List.nodup_cons.mp nd
    have hx := h x List.mem_cons_self
    have := nodup_sub_len (b := b.erase x) nd'.2 fun y hy => (List.mem_erase_of_ne fun e : y = x => nd'.1 (by rw [← e]; exact hy)).mpr (h y (List.mem_cons_of_mem _ hy))
    rw [List.length_erase_of_mem hx] at this
    have : 0 < b.length := List.length_pos_of_mem hx
    simp only [List.length_cons]; omega
theorem namesOf_take {ns : List Str} {i : Nat} : (namesOf (ns.take i)).length ≤ (namesOf ns).length := nodup_sub_len (namesOf_nodup _) fun x hx => namesOf_mem.mpr (List.mem_of_mem_take (namesOf_mem.mp hx))
/-! ### orders -/
def noOrdAt (ds : List PyData) (i : Nat) : Bool := decide (1000 ≤ i) || (!runD (ds.getD i .none) || decide (12 < (namesOf ((ds.take (i + 1)).map nmD)).length))
def firstNo (ds : List PyData) : Option Nat := (List.range ds.length).find? (noOrdAt ds)
def orderD : PyData → Bool
  | .tuple ds => (firstNo ds).isNone
  | _ => false
structure OrdOk (ps : Bag) : Prop where
  nam : ∀ p ∈ ps, isName p.1 = true
  pos : ∀ p ∈ ps, 1 ≤ p.2
  len : ps.length ≤ 1000
  few : (namesOf (ps.map (·.1))).length ≤ 12
theorem OrdOk.s {ps : Bag} (h : OrdOk ps) (hc : ∀ p ∈ ps, p.2 ≤ 10 ^ 100) : BagS ps := fun p hp => ⟨h.nam p hp, by have := h.pos p hp; omega, hc p hp⟩
end TP

namespace TP
open PySem PySem.Spec PyProof.Rows L2
/-! ### len and sorted of a dict, d[k], the truth of a value, equality of data -/
def rLenD : List V → Hp → VK → Prop := fun xs H Q => ∃ a kvs, xs = [V.ref a] ∧ H a = some (.dK kvs) ∧ Q (.int kvs.length) H
def rSortedDk : List V → Hp → VK → Prop := fun xs H Q => ∃ (a : Addr) (kvs : List (Key × V)) (ks : List Str), xs = [.ref a] ∧ Rd H a (.dK kvs) ∧ kvs.map (·.1) = ks.map Sum.inr ∧ ks.length < 64 ∧
    ∀ ys p, ys.Perm ks → sortedS ys = true → H p = none → Q (.ref p) (upd H p (.lst (ys.map V.str)))
def tTru (K : PySem.W.Frag) (ta : TE) : TT := fun σ H Q => ta σ H fun x H' => ∃ k, TruV K x H' k ∧ Q k H'
def TruC (K : PySem.W.Frag) (x : V) (H : Hp) (k : Bool → Prop) : Prop := ∃ b, TruV K x H b ∧ k b
def DGetC (x y : V) (H : Hp) (Q : VK) : Prop := ∃ a v, x = .ref a ∧ DGet H a y (some v) ∧ Q v H
section
variable {K : PySem.W.Frag} {σ : L2.St} {H : Hp} {Q : VK} {te td ty : TE} {QB : Bool → Hp → Prop} {a : Addr} {xs : List V} {v w : V}
end
/-! ### lists that are the same, item by item -/
def SameV (K : PySem.W.Frag) (H : Hp) (x y : V) : Prop := (x = y ∧ flatB x = true) ∨ ∃ d, Dp K H x d ∧ Dp K H y d ∧ SeqAt.shaped d = true
inductive AllSame (K : PySem.W.Frag) (H : Hp) : List V → List V → Prop
  | nil : AllSame K H [] []
  | cons {x y : V} {xs ys : List V} : SameV K H x y → AllSame K H xs ys → AllSame K H (x :: xs) (y :: ys)
theorem AllSame.len {K : PySem.W.Frag} {H : Hp} : ∀ {xs ys : List V}, AllSame K H xs ys → xs.length = ys.length
  | _, _, .nil => rfl
  | _, _, .cons _ r => by rw [List.length_cons, List.length_cons, r.len]
def rNeL (K : PySem.W.Frag) : R2 := fun x y H Q => ∃ a b xs ys, x = .ref a ∧ y = .ref b ∧ SqL K H a xs ∧ SqL K H b ys ∧ AllSame K H xs ys ∧ Q (.bl false) H
def rEqL (K : PySem.W.Frag) : R2 := fun x y H Q => ∃ a b xs ys, x = .ref a ∧ y = .ref b ∧ SqL K H a xs ∧ SqL K H b ys ∧ AllSame K H xs ys ∧ Q (.bl true) H
section
variable {X : Cx} {pins : List (Addr × Obj)} {σ : L2.St} {H : Hp} {s : Shared}
def rNeE (K : PySem.W.Frag) : R2 := fun x y H Q => ∃ a b xs, x = .ref a ∧ y = .ref b ∧ SqL K H a xs ∧ SqL K H b [] ∧ Q (.bl (!xs.isEmpty)) H
def rEqE (K : PySem.W.Frag) : R2 := fun x y H Q => ∃ a b xs, x = .ref a ∧ y = .ref b ∧ SqL K H a xs ∧ SqL K H b [] ∧ Q (.bl xs.isEmpty) H
end
section
variable {K : PySem.W.Frag} {H : Hp} {Q : VK} {a b : Addr} {xs ys : List V}
end
/-! ### the table in the order of its names -/
def canF (f : Str → Int) (ys : List Str) : Bag := ys.filterMap fun y => if 0 < f y then some (y, f y) else none
def posI (i : Int) : Int := if 0 < i then i else 0
theorem IsCan.ok {f : Str → Int} {ps : Bag} (h : IsCan f ps) (hn : ∀ p ∈ ps, isName p.1 = true) : BagOk ps := ⟨h.asc, hn, fun p hp => by have := h.pos p hp; omega⟩
/-! ### sums and counts -/
theorem cntC_cons (p : Str × Int) (r : Bag) (n : Str) : cntC (p :: r) n = (if p.1 = n then p.2 else 0) + cntC r n := by
  unfold cntC
  by_cases e : p.1 = n
  · rw [List.filter_cons_of_pos (by simpa using e), List.map_cons, List.sum_cons, if_pos e]
  · rw [List.filter_cons_of_neg (by simpa using e), if_neg e]; omega
theorem sumC_cons (p : Str × Int) (r : Bag) : sumC (p :: r) = p.2 + sumC r := by unfold sumC; rw [List.map_cons, List.sum_cons]
/-! ### neighbouring runs of a name joined; the last run stands first -/
def jst (acc : Bag) (p : Str × Int) : Bag := match acc with
  | [] => [p]
  | q :: r => if q.1 = p.1 then (p.1, q.2 + p.2) :: r else p :: q :: r
def jrev (ps : Bag) : Bag := ps.foldl jst []
def joinR (ps : Bag) : Bag := (jrev ps).reverse
def Red : Bag → Prop
  | [] => True
  | p :: r => (∀ q, r.head? = some q → q.1 ≠ p.1) ∧ Red r
theorem jst_cnt (acc : Bag) (p : Str × Int) (n : Str) : cntC (jst acc p) n = cntC acc n + (if p.1 = n then p.2 else 0) := by
  cases acc with
  | nil => show cntC [p] n = _; rw [cntC_cons]; have : cntC [] n = 0 := rfl; omega
  | cons q r =>
    show cntC (if q.1 = p.1 then _ else _) n = _
    split
    · rename_i e
      rw [cntC_cons, cntC_cons]
      show (if p.1 = n then q.2 + p.2 else 0) + _ = _
      rw [e]
      split <;> omega
    · rw [cntC_cons]; omega
theorem jst_sum (acc : Bag) (p : Str × Int) : sumC (jst acc p) = sumC acc + p.2 := by
  cases acc with
  | nil => show sumC [p] = _; rw [sumC_cons]; have : sumC [] = 0 := rfl; omega
  | cons q r =>
    show sumC (if q.1 = p.1 then _ else _) = _
    split
    · rw [sumC_cons, sumC_cons]; show q.2 + p.2 + _ = _; omega
    · rw [sumC_cons]; omega
theorem jrev_aux : ∀ (ps acc : Bag), (∀ n, cntC (ps.foldl jst acc) n = cntC acc n + cntC ps n) ∧ sumC (ps.foldl jst acc) = sumC acc + sumC ps ∧ (ps.foldl jst acc).length ≤ acc.length + ps.length
  | [], acc => ⟨fun n => by have : cntC [] n = 0 := rfl; simp only [List.foldl_nil]; omega, by have : sumC [] = 0 := rfl; simp only [List.foldl_nil]; omega, by simp⟩
  | p :: r, acc => by
    obtain ⟨h1, h2, h3⟩ := jrev_aux r (jst acc p)
    have hl : (jst acc p).length ≤ acc.length + 1 := by
      cases acc with
      | nil => simp [jst]
      | cons q t => show (if q.1 = p.1 then _ else _ : Bag).length ≤ _; split <;> simp
    refine ⟨fun n => ?_, ?_, ?_⟩
    · rw [List.foldl_cons, h1, jst_cnt, cntC_cons]; omega
    · rw [List.foldl_cons, h2, jst_sum, sumC_cons]; omega
    · rw [List.foldl_cons, List.length_cons]; omega
theorem jrev_len (ps : Bag) : (jrev ps).length ≤ ps.length := by have := (jrev_aux ps []).2.2; simpa [jrev] using this
theorem joinR_len (ps : Bag) : (joinR ps).length ≤ ps.length := by unfold joinR; rw [List.length_reverse]; exact jrev_len ps
theorem jrev_mem (ps : Bag) (hp : ∀ p ∈ ps, 1 ≤ p.2) : ∀ q ∈ jrev ps, q.1 ∈ ps.map (·.1) ∧ 1 ≤ q.2 := by
  have : ∀ (ps acc : Bag) (l : List Str), (∀ p ∈ ps, 1 ≤ p.2 ∧ p.1 ∈ l) → (∀ q ∈ acc, q.1 ∈ l ∧ 1 ≤ q.2) → ∀ q ∈ ps.foldl jst acc, q.1 ∈ l ∧ 1 ≤ q.2 := by
    intro ps
    induction ps with
    | nil => intro acc l _ h; exact h
    | cons p r ih =>
      intro acc l h1 h2
      refine ih (jst acc p) l (fun q hq => h1 q (List.mem_cons_of_mem _ hq)) fun q hq => ?_
      have hp := h1 p List.mem_cons_self
      cases acc with
      | nil => rw [show jst [] p = [p] from rfl, List.mem_singleton] at hq; subst hq; exact ⟨hp.2, hp.1⟩
      | cons z t =>
        have hz := h2 z List.mem_cons_self
        have hq' : q ∈ (if z.1 = p.1 then (p.1, z.2 + p.2) :: t else p :: z :: t) := hq
        split at hq'
        · rcases List.mem_cons.mp hq' with rfl | hq'
          · exact ⟨hp.2, by show 1 ≤ z.2 + p.2; omega⟩
          · exact h2 q (List.mem_cons_of_mem _ hq')
        · rcases List.mem_cons.mp hq' with rfl | hq'
          · exact ⟨hp.2, hp.1⟩
          · exact h2 q hq'
  exact this ps [] (ps.map (·.1)) (fun p hpp => ⟨hp p hpp, List.mem_map.mpr ⟨p, hpp, rfl⟩⟩) nofun
theorem OrdOk.join {ps : Bag} (h : OrdOk ps) : OrdOk (joinR ps) := by
  have hm : ∀ q ∈ joinR ps, q.1 ∈ ps.map (·.1) ∧ 1 ≤ q.2 := fun q hq => jrev_mem ps h.pos q (List.mem_reverse.mp hq)
  refine ⟨fun q hq => ?_, fun q hq => (hm q hq).2, Nat.le_trans (joinR_len ps) h.len, Nat.le_trans (nodup_sub_len (namesOf_nodup _) fun x hx => ?_) h.few⟩
  · obtain ⟨p, hp, e⟩ := List.mem_map.mp (hm q hq).1
    rw [← e]; exact h.nam p hp
  · obtain ⟨q, hq, e⟩ := List.mem_map.mp (namesOf_mem.mp hx)
    rw [← e]
    exact namesOf_mem.mpr (hm q hq).1
/-! ### the last item of a list -/
def StepC (K : PySem.W.Frag) (c : Int) (v : V) (H : Hp) (Q : VK) : Prop := ∃ a xs, v = .ref a ∧ SqT K H a xs ∧ (stepL c xs).length ≤ sizeLine ∧ ∀ p, H p = none → Q (.ref p) (upd H p (.tup (stepL c xs)))
end TP

namespace TP
open PySem PySem.Spec PyProof.Rows L2
/-! ### arguments, keywords and defaults, picked by their places -/
def pick {α : Type} (js : List Nat) (l : List α) : List α := js.filterMap fun j => l[j]?
/-- n positional values, keywords ks, nd defaults: js says where each parameter comes from -/
def BindJ (x q : Str) (st : Stmt) (ps : List Str) (nd n : Nat) (ks : List Str) (js : List Nat) : Prop :=
  (nd = 0 ∧ ∀ (kV doc pm : Value) (an : Option Addr) (cdv ct : Value) (us ws : List Value), us.length = n → ws.length = ks.length →
    bindArgs (PySem.W.fnOf x q (defArgs st) (defBody st) (defScope st) .none kV doc pm an cdv ct) ⟨us, ks.zip ws⟩ = pure (ps.zip (pick js (us ++ ws)))) ∨
  (nd ≠ 0 ∧ ∀ (T : Addr) (kV doc pm : Value) (an : Option Addr) (cdv ct : Value) (us its ws : List Value), us.length = n → its.length = nd → ws.length = ks.length →
    ∃ k, bindArgs (PySem.W.fnOf x q (defArgs st) (defBody st) (defScope st) (.ref T) kV doc pm an cdv ct) ⟨us, ks.zip ws⟩ = seqItems? (.ref T) >>= k ∧ k (some its.toArray) = pure (ps.zip (pick js (us ++ ws ++ its))))
/-! ### methods -/
structure DfdM (K : PySem.W.Frag) (C m q : Str) (st : Stmt) (dvs : List V) : Prop where
  ex : ∃ fd, FunD K m q (defArgs st) (defBody st) (defScope st) dvs [] (He.ma K (He.ga K C) m) fd
  mt : Meth K (He.ga K C) m (He.ma K (He.ga K C) m)
structure HasM (P : Program) (w : World) (K : PySem.W.Frag) (mg : Str → Option Value) (base : Heap) (CX : CXT) (k : Nat) (C m q : Str) (st : Stmt) (dvs : List V) (ps : List Str) (sp : Sp) : Prop where
  ex : ∃ fd, FunD K m q (defArgs st) (defBody st) (defScope st) dvs [] (He.ma K (He.ga K C) m) fd ∧ FnG P w K mg base CX k (He.ma K (He.ga K C) m) fd ps sp
  mt : Meth K (He.ga K C) m (He.ma K (He.ga K C) m)
section
variable {P : Program} {w : World} {K : PySem.W.Frag} {mg : Str → Option Value} {base : Heap} {CX : CXT} {k j : Nat} {C m q : Str} {st : Stmt} {dvs : List V} {N ps : List Str} {sp sp' : Sp}
theorem DfdM.has (D : DfdM K C m q st dvs) (S : FnScope N ps (defScope st)) (len : ∀ vs H Q E, sp vs H Q E → vs.length = ps.length)
    (hbody : ∀ (cdv : Value) (A : Around) (outer : List Env) (s : Shared) (H : Hp) (vs : List V) (Q : VK) (E : XK), Room k (A.deeper (envOfC q (defScope st) s.heap.objs.size (He.ma K (He.ga K C) m) cdv)) → (A.deeper (envOfC q (defScope st) s.heap.objs.size (He.ma K (He.ga K C) m) cdv)).guards = some [] → sp vs H Q E →
      ∃ t, PSs (cxOf CX P w K mg base N q (defScope st) (He.ma K (He.ga K C) m) cdv A outer s H E) (defBody st) t ∧ t { nx := fun _ H' => Q .non H', rt := Q } (start N vs) H) :
    HasM P w K mg base CX (k + 1) C m q st dvs ps sp := by
  obtain ⟨fd, F⟩ := D.ex
  exact ⟨⟨fd, F, fnG_of F S len hbody⟩, D.mt⟩
end
/-- a class of the program: its fields fs are no attributes of the class -/
structure ClsF (K : PySem.W.Frag) (mg : Str → Option Value) (C : Str) (fs : List Str) : Prop where
  glo : mg C = some (.ref (He.ga K C))
  cls : Cls K (He.ga K C)
  na : ∀ f ∈ fs, NoAttr K (He.ga K C) f
  mkr : Mk K (He.ga K C) (He.ma K (He.ga K C) "__init__")
  i1 : PySem.W.findIn K (.ref (He.ga K C)) "__class__" = some (some (.builtin "object.__class__"))
  i2 : PySem.W.specialIn K (.builtin "object.__class__") "__get__" = some (some (.builtin "getset_descriptor.__get__"))
  i3 : PySem.W.takesIn K (.builtin "object.__class__") = some true
  i4 : PySem.W.mroIn K (He.ga K C) (.type "object") = some true
  kt : PySem.W.kitOne K (.ref (He.ga K C)) (.ref (He.ga K C)) = some true
  kf : ∀ T ∈ ["NoneType", "bool", "int", "str", "list", "tuple", "dict"], PySem.W.kitOne K (.type T) (.ref (He.ga K C)) = some false
  kb : ∀ T ∈ ["int", "str", "list", "tuple", "dict", "bool"], PySem.W.kitOne K (.ref (He.ga K C)) (.type T) = some false
  ne : PySem.W.findIn K (.ref (He.ga K C)) "__ne__" = some (some (.builtin "object.__ne__"))
def clsB (K : PySem.W.Frag) (C : Str) (fs : List Str) : Bool :=
  (He.Fa.glo C).ok K && ((He.Fa.cls C).ok K && (fs.all (fun f => (He.Fa.noat C f).ok K) && ((He.Fa.mkr C).ok K && (He.eqO (PySem.W.findIn K (.ref (He.ga K C)) "__class__") (some (some (.builtin "object.__class__"))) &&
    (He.eqO (PySem.W.specialIn K (.builtin "object.__class__") "__get__") (some (some (.builtin "getset_descriptor.__get__"))) && (decide (PySem.W.takesIn K (.builtin "object.__class__") = some true) &&
    (decide (PySem.W.mroIn K (He.ga K C) (.type "object") = some true) && (decide (PySem.W.kitOne K (.ref (He.ga K C)) (.ref (He.ga K C)) = some true) &&
    (["NoneType", "bool", "int", "str", "list", "tuple", "dict"].all (fun T => decide (PySem.W.kitOne K (.type T) (.ref (He.ga K C)) = some false)) &&
    (["int", "str", "list", "tuple", "dict", "bool"].all (fun T => decide (PySem.W.kitOne K (.ref (He.ga K C)) (.type T) = some false)) && He.eqO (PySem.W.findIn K (.ref (He.ga K C)) "__ne__") (some (some (.builtin "object.__ne__")))))))))))))
/-- an empty tuple stands at the address -/
def etupB (K : PySem.W.Frag) (a : Addr) : Bool := match K.lookup a with
  | some ⟨.type c, _, .seq its _, _⟩ => decide (c = "tuple") && decide (its = #[])
  | _ => false
/-- the address of the i-th default of a method, if it is an object's -/
def dflA (C m : Str) (i : Nat) (K : PySem.W.Frag) : Addr := match K.lookup (He.ma K (He.ga K C) m) with
  | some ⟨_, _, .func fd, _⟩ => (match fd.defaults with
    | .ref T => (match K.lookup T with
      | some ⟨_, _, .seq its _, _⟩ => (match its[i]? with
        | some (.ref a) => a
        | _ => 0)
      | _ => 0)
    | _ => 0)
  | _ => 0
/-! ### the hook, with further facts of the written part -/
def hookE (n : Nat) (fa : List He.Fa) (fn : List He.DefD) (ex : List (PySem.W.Frag → Bool)) : PySem.W.Hook where
  α := He.AlD × Bool
  obs := fun s => (He.obsDG n fa fn s.heap.get?, (ex.all fun e => e (He.frG s.heap.get? (He.asD s.heap.get? n))))
  val := fun _ => (He.valD fn, true)
  says := fun _ h => ∃ K : PySem.W.Frag, K.In h ∧ He.SaysD fa fn K ∧ (ex.all fun e => e K) = true
  of := fun _ _ e => ⟨_, He.frG_in, congrArg (fun z : He.AlD × Bool => z.1) e, congrArg (fun z : He.AlD × Bool => z.2) e⟩
  keeps := fun _ _ _ ⟨K, hK, c⟩ k => ⟨K, PySem.W.Frag.In.keeps hK k, c⟩
def obsEG (n : Nat) (fa : List He.Fa) (fn : List He.DefD) (ex : List (PySem.W.Frag → Bool)) (g : Addr → Option Obj) : He.AlD × Bool := (He.obsDG n fa fn g, ex.all fun e => e (He.frG g (He.asD g n)))
/-! ### the rules -/
def MtC (C : Addr) (m : Str) (x : V) (H : Hp) (P : Prop) : Prop := ∃ a dx fs, x = .ref a ∧ H a = some (.ins C dx fs) ∧ fs.lookup m = none ∧ P
/-- o.m(..): n positional values, k keywords -/
def tMtN (C : Addr) (m : Str) (sp : Sp) (n k : Nat) (js : List Nat) (dvs : List V) (E : XK) (ta : TE) (t tk : TA) : TE := fun σ H Q => ta σ H fun x H1 => MtC C m x H1 (t σ H1 fun vs H2 => tk σ H2 fun zs H3 => vs.length = n ∧ zs.length = k ∧ sp (pick js ((x :: vs) ++ zs ++ dvs)) H3 Q E)
def MkG (C : Addr) (sp : Sp) (js : List Nat) (dvs vs zs : List V) (H : Hp) (Q : VK) (E : XK) : Prop := ∀ x dx, H x = none → H dx = none → dx ≠ x → sp (pick js ((.ref x :: vs) ++ zs ++ dvs)) (upd (upd H dx (.own x)) x (.ins C dx [])) (fun v H3 => v = .non ∧ Q (.ref x) H3) E
/-- C(..) -/
def tMkN (C : Addr) (sp : Sp) (n k : Nat) (js : List Nat) (dvs : List V) (E : XK) (t tk : TA) : TE := fun σ H Q => t σ H fun vs H1 => tk σ H1 fun zs H2 => vs.length = n ∧ zs.length = k ∧ MkG C sp js dvs vs zs H2 Q E
section
variable {X : Cx} {CX : CXT} {k n : Nat} {f : Addr} {fd : FuncData} {C m q : Str} {st : Stmt} {dvs : List V} {ps ks : List Str} {js : List Nat} {sp : Sp} {E : XK} {p pos apos : Pos} {e o : Expr} {es : List Expr} {kws : List Keyword} {ta : TE} {t tk : TA} {fs : List Str} {g : List Value → List Value → List Value} {gV : List V → List V → List V}
end
/-! ### fields, methods, isinstance in a reading -/
def LenC (n k : Nat) (vs zs : List V) (P : Prop) : Prop := vs.length = n ∧ zs.length = k ∧ P
def FldC (K : PySem.W.Frag) (f : Str) (x : V) (H : Hp) (Q : VK) : Prop := ∃ a C dx fs v, x = .ref a ∧ H a = some (.ins C dx fs) ∧ Cls K C ∧ NoAttr K C f ∧ fs.lookup f = some v ∧ Q v H
def SetC (K : PySem.W.Frag) (f : Str) (x y : V) (H : Hp) (k : Hp → Prop) : Prop := ∃ a C dx fs, x = .ref a ∧ H a = some (.ins C dx fs) ∧ Cls K C ∧ NoAttr K C f ∧ fs.length < 1000 ∧ k (upd H a (.ins C dx (putF f y fs)))
section
variable {K : PySem.W.Frag} {mg : Str → Option Value} {C f m : Str} {fs : List Str} {σ : L2.St} {H : Hp} {Q : VK} {ta tv : TE} {t tk : TA} {a dx : Addr} {fl : List (Str × V)} {v y : V} {De : Ends}
end
end TP

namespace TP
open PySem PySem.Spec PyProof.Rows L2
/-! ### the hook of a program with dicts at its top: what the module's names reach, each object looked at once -/
def nextF (g : Addr → Option Obj) (seen new : List Addr) : List Addr := (new.flatMap fun a => match g a with
  | some o => He.refsD o
  | none => []).eraseDups.filter fun a => !seen.contains a
def asF (g : Addr → Option Obj) : Nat → List Addr → List Addr → List Addr
  | 0, seen, _ => seen
  | n + 1, seen, new => asF g n (seen ++ nextF g seen new) (nextF g seen new)
def frF (n : Nat) (g : Addr → Option Obj) : PySem.W.Frag := He.frG g (asF g n [mainGlobals] [mainGlobals])
def hookET (n : Nat) (fa : List He.Fa) (fn : List He.DefD) (ts : List He.Tab) (ex : List (PySem.W.Frag → Bool)) : PySem.W.Hook where
  α := He.AlT × Bool
  obs := fun s => (He.obsT fa fn ts (frF n s.heap.get?), (ex.all fun e => e (frF n s.heap.get?)))
  val := fun w => (He.valT fn ts w, true)
  says := fun w h => ∃ K : PySem.W.Frag, K.In h ∧ He.SaysT fa fn ts w K ∧ (ex.all fun e => e K) = true
  of := fun _ _ e => ⟨_, He.frG_in, congrArg (fun z : He.AlT × Bool => z.1) e, congrArg (fun z : He.AlT × Bool => z.2) e⟩
  keeps := fun _ _ _ ⟨K, hK, c⟩ k => ⟨K, PySem.W.Frag.In.keeps hK k, c⟩
def obsETG (n : Nat) (fa : List He.Fa) (fn : List He.DefD) (ts : List He.Tab) (ex : List (PySem.W.Frag → Bool)) (g : Addr → Option Obj) : He.AlT × Bool := (He.obsT fa fn ts (frF n g), ex.all fun e => e (frF n g))
theorem obsETG_eq {n : Nat} {fa : List He.Fa} {fn : List He.DefD} {ts : List He.Tab} {ex : List (PySem.W.Frag → Bool)} {g : Addr → Option Obj} {s : Shared} (h : ∀ a, g a = s.heap.get? a) : obsETG n fa fn ts ex g = (hookET n fa fn ts ex).obs s := by
  have e : g = s.heap.get? := funext h
  rw [e] <;> rfl
end TP

namespace TP
open PySem PySem.Spec PyProof.Rows L2
/-! ### the least number -/
def minL : List Int → Int
  | [] => 0
  | [a] => a
  | a :: b :: r => if a ≤ minL (b :: r) then a else minL (b :: r)
/-! ### dicts: membership, reading while locked, copying -/
def DInC (x y : V) (H : Hp) (k : Bool → Prop) : Prop := ∃ a o, x = .ref a ∧ DGet H a y o ∧ k o.isSome
def rDictD : List V → Hp → VK → Prop := fun xs H Q => ∃ (a : Addr) (kvs : List (Key × V)), xs = [.ref a] ∧ Rd H a (.dK kvs) ∧ ∀ p, H p = none → Q (.ref p) (upd H p (.dK kvs))
def OnK (R : It → Hp → Prop) (x : V) (H : Hp) : Prop := ∃ d o, x = .ref d ∧ ((∃ kvs, H d = some (.frz o (.dK kvs)) ∧ R (Itk d o kvs) H) ∨ ∃ kvs, H d = some (.frz o (.dT kvs)) ∧ R (Itkt d o kvs) H)
def DcOk (J : It) (g : TG) (tt : TT) (tk tv : TE) (vs : List Nat) (σ : L2.St) (H1 : Hp) (D : Addr) (Q : VK) : Prop := ∃ W : Nat → Nat → Hp → Prop, (∃ m, W 0 m (upd H1 D (.dK []))) ∧ ∀ i m H, W i m H →
  (J.stop i H ∧ Q (.ref D) H) ∨ (J.go i H ∧ ∃ Nx : Hp → Prop, (∀ H', Nx H' → ∃ m', m' < m ∧ W (i + 1) m' H') ∧ ∀ x H', J.yld i H x H' → g x (wipe σ vs) H' fun σ2 H2 => wipe σ2 vs = wipe σ vs ∧ tt σ2 H2 fun b H3 =>
    if b = true then tk σ2 H3 fun y H4 => tv σ2 H4 fun z H5 => ∃ kvs k, y = kV k ∧ H5 D = some (.dK kvs) ∧ kvs.length < sizeLine ∧ Nx (upd H5 D (.dK (putK kvs k z))) else Nx H3)
def WhC (m : Nat) (Pv : Nat → L2.St → Hp → Prop) (tb : TS) (De : Ends) (σ : L2.St) (H : Hp) : Prop := ∃ N : L2.St → Hp → Prop, (∀ σ' H', N σ' H' → ∃ m', m' < m ∧ Pv m' σ' H') ∧ tb { De with nx := N, ct := N, bk := De.nx } σ H
section
variable {K : PySem.W.Frag} {σ : L2.St} {H H1 : Hp} {Q : VK} {te td ty tx : TE} {a d : Addr} {kvs : List (Key × V)} {v : V} {R : It → Hp → Prop} {wi : TI} {g : TG} {tt : TT} {tk tv : TE} {vs : List Nat} {t : TE} {ts tb : TS} {De : Ends} {od : Obj} {D : Addr} {c : TT}
end
/-! ### tables: names once each, numbers from 1 on -/
abbrev keys (t : Bag) : List Str := t.map (·.1)
structure TabOk (t : Bag) : Prop where
  nd : (keys t).Nodup
  pos : ∀ p ∈ t, 1 ≤ p.2
theorem BagOk.tab {ps : Bag} (h : BagOk ps) : TabOk ps := ⟨asc_nodup h.asc, h.pos⟩
/-! what putting does -/
theorem put_keys (t : Bag) (n : Str) (c : Int) : keys (putT t n c) = addN (keys t) n := by
  unfold putT addN keys
  have e : (t.any fun q => decide (q.1 = n)) = decide (n ∈ t.map (·.1)) := by
    by_cases h : n ∈ t.map (·.1)
    · rw [decide_eq_true h, List.any_eq_true]
      obtain ⟨q, hq, e⟩ := List.mem_map.mp h
      exact ⟨q, hq, decide_eq_true e⟩
    · rw [decide_eq_false h, Bool.eq_false_iff]
      intro z
      obtain ⟨q, hq, e⟩ := List.any_eq_true.mp z
      exact h (List.mem_map.mpr ⟨q, hq, of_decide_eq_true e⟩)
  rw [e]
  by_cases h : n ∈ t.map (·.1)
  · rw [if_pos (decide_eq_true h), if_pos h, List.map_map]
    refine List.map_congr_left fun q _ => ?_
    by_cases z : q.1 = n
    · simp [z]
    · simp [z]
  · rw [if_neg (by rw [decide_eq_false h]; exact Bool.false_ne_true), if_neg h, List.map_append]; rfl
theorem put_mem {t : Bag} {n : Str} {c : Int} {p : Str × Int} (h : p ∈ putT t n c) : p ∈ t ∨ p = (n, c) := by
  unfold putT at h
  split at h
  · obtain ⟨q, hq, e⟩ := List.mem_map.mp h
    by_cases z : q.1 = n
    · rw [if_pos z] at e; right; rw [← e, z]
    · rw [if_neg z] at e; left; rw [← e]; exact hq
  · rcases List.mem_append.mp h with h | h
    · exact .inl h
    · exact .inr (List.mem_singleton.mp h)
theorem TabOk.put {t : Bag} (h : TabOk t) {n : Str} {c : Int} (hc : 1 ≤ c) : TabOk (putT t n c) := by
  refine ⟨by rw [put_keys]; exact addN_nodup h.nd, fun p hp => ?_⟩
  rcases put_mem hp with h1 | h1
  · exact h.pos p h1
  · rw [h1]; exact hc
/-! ### every number lowered by s, what is not above s left out -/
def lowT (t : Bag) (s : Int) : Bag := t.filterMap fun p => if s < p.2 then some (p.1, p.2 - s) else none
theorem lowT_cons (p : Str × Int) (r : Bag) (s : Int) : lowT (p :: r) s = (if s < p.2 then [(p.1, p.2 - s)] else []) ++ lowT r s := by
  unfold lowT
  rw [List.filterMap_cons]
  by_cases z : s < p.2
  · rw [if_pos z, if_pos z]; rfl
  · rw [if_neg z, if_neg z]; rfl
theorem lowT_mem {t : Bag} {s : Int} {p : Str × Int} (h : p ∈ lowT t s) : (p.1, p.2 + s) ∈ t ∧ 0 < p.2 := by
  unfold lowT at h
  obtain ⟨q, hq, e⟩ := List.mem_filterMap.mp h
  by_cases z : s < q.2
  · rw [if_pos z] at e
    cases e
    have : (q.1, q.2 - s + s) = q := Prod.ext rfl (by show q.2 - s + s = q.2; omega)
    exact ⟨by rw [this]; exact hq, by show 0 < q.2 - s; omega⟩
  · rw [if_neg z] at e; cases e
theorem lowT_keys {t : Bag} {s : Int} {n : Str} (h : n ∈ keys (lowT t s)) : n ∈ keys t := by
  obtain ⟨p, hp, rfl⟩ := List.mem_map.mp h
  exact List.mem_map.mpr ⟨_, (lowT_mem hp).1, rfl⟩
theorem lowT_nodup : ∀ {t : Bag} {s : Int}, (keys t).Nodup → (keys (lowT t s)).Nodup
  | [], _, h => h
  | p :: r, s, h => by
    have h' := List.nodup_cons.mp (show (p.1 :: keys r).Nodup from h)
    rw [lowT_cons]
    have ih := lowT_nodup (s := s) h'.2
    split
    · exact List.nodup_cons.mpr ⟨fun z => h'.1 (lowT_keys z), ih⟩
    · exact ih
theorem TabOk.low {t : Bag} (h : TabOk t) (s : Int) : TabOk (lowT t s) := ⟨lowT_nodup h.nd, fun p hp => by have := (lowT_mem hp).2; omega⟩
def minV (t : Bag) : Int := minL (t.map (·.2))
/-! ### m arrivals of a name at a table of at most c names -/
def arrT (c : Int) (t : Bag) (n : Str) (m : Int) : Bag × Int :=
  if n ∈ keys t ∨ (t.length : Int) ≠ c then (putT t n (getT t n + m), 0)
  else if m ≤ minV t then (lowT t m, m) else (putT (lowT t (minV t)) n (m - minV t), minV t)
structure ArrOk (c : Int) (t : Bag) : Prop where
  tab : TabOk t
  len : (t.length : Int) ≤ c
  cap : 1 ≤ c
theorem ArrOk.ne {c : Int} {t : Bag} (h : ArrOk c t) (e : (t.length : Int) = c) : t ≠ [] := by
  intro z
  have := h.cap
  rw [z] at e
  simp at e
  omega
end TP

namespace TP
open PySem PySem.Spec PyProof.Rows L2
/-! ### summaries -/
def betD (d : PyData) (i j : Int) : Bool := match d with
  | .int n => decide (i ≤ n) && decide (n ≤ j)
  | _ => false
abbrev sumF : List Str := ["capacity", "counts", "__bool__"]
structure SumV (c : Int) (ps : Bag) : Prop where
  c1 : 1 ≤ c
  c8 : c ≤ 8
  ok : BagOk ps
  len : (ps.length : Int) ≤ c
def SumO (K : PySem.W.Frag) (H : Hp) (v : V) (c : Int) (ps : Bag) : Prop := ∃ a dx b, v = .ref a ∧ H a = some (.ins (He.ga K "Summary") dx [("capacity", .int c), ("counts", b)]) ∧ Dp K H b (bagD ps)
def spInit (K : PySem.W.Frag) : Sp := fun vs H Q _ => ∃ (x dx : Addr) (c : Int) (ps : Bag) (b : V), vs = [.ref x, .int c, b] ∧ H x = some (.ins (He.ga K "Summary") dx []) ∧ Dp K H b (bagD ps) ∧ SumV c ps ∧
  ∀ H', SameB x H H' → H' x = some (.ins (He.ga K "Summary") dx [("capacity", .int c), ("counts", b)]) → Q .non H'
section
variable {K : PySem.W.Frag} {mg : Str → Option Value} {H H' : Hp} {Q : VK} {v : V} {c : Int} {ps : Bag}
theorem sum_same (s : Same H H') (h : SumO K H v c ps) : SumO K H' v c ps := by
  obtain ⟨a, dx, b, rfl, h1, h2⟩ := h
  exact ⟨a, dx, b, rfl, s _ _ h1, dp_same s h2⟩
end
/-! ### several arrivals, one behind another -/
def playT (c : Int) (t : Bag) (rs : Bag) : Bag × Int := rs.foldl (fun z r => ((arrT c z.1 r.1 r.2).1, z.2 + (arrT c z.1 r.1 r.2).2)) (t, 0)
def playF (c : Int) (z : Bag × Int) (rs : Bag) : Bag × Int := rs.foldl (fun z r => ((arrT c z.1 r.1 r.2).1, z.2 + (arrT c z.1 r.1 r.2).2)) z
/-! ### what is shown of a summary -/
theorem WordsOk.take {ws : List Str} {n : Nat} (h : WordsOk ws n) (k : Nat) : WordsOk (ws.take k) (ws.take k).length := ⟨rfl, h.nd.sublist (List.take_sublist k ws), fun w hw => h.nam w (List.mem_of_mem_take hw)⟩
theorem WordsOk.drop {ws : List Str} {n : Nat} (h : WordsOk ws n) (k : Nat) : WordsOk (ws.drop k) (ws.drop k).length := ⟨rfl, h.nd.sublist (List.drop_sublist k ws), fun w hw => h.nam w (List.mem_of_mem_drop hw)⟩
/-! ### slices of tuples of data -/
def cutL {α : Type} (xs : List α) (lo hi : Option Int) : List α := (xs.drop (HT.sIx xs.length 0 lo)).take (HT.sIx xs.length xs.length hi - HT.sIx xs.length 0 lo)
theorem OrdOk.take {rs : Bag} (h : OrdOk rs) (k : Nat) : OrdOk (rs.take k) := ⟨fun p hp => h.nam p (List.mem_of_mem_take hp), fun p hp => h.pos p (List.mem_of_mem_take hp), by have := h.len; rw [List.length_take]; omega,
  Nat.le_trans (by rw [List.map_take]; exact namesOf_take) h.few⟩
theorem OrdOk.drop {rs : Bag} (h : OrdOk rs) (k : Nat) : OrdOk (rs.drop k) := ⟨fun p hp => h.nam p (List.mem_of_mem_drop hp), fun p hp => h.pos p (List.mem_of_mem_drop hp), by have := h.len; rw [List.length_drop]; omega,
  Nat.le_trans (nodup_sub_len (namesOf_nodup _) fun x hx => by
    obtain ⟨p, hp, e⟩ := List.mem_map.mp (namesOf_mem.mp hx)
    exact namesOf_mem.mpr (List.mem_map.mpr ⟨p, List.mem_of_mem_drop hp, e⟩)) h.few⟩
theorem BagOk.take {ps : Bag} (h : BagOk ps) (k : Nat) : BagOk (ps.take k) := ⟨h.asc.sublist (List.take_sublist k ps), fun p hp => h.nam p (List.mem_of_mem_take hp), fun p hp => h.pos p (List.mem_of_mem_take hp)⟩
theorem BagOk.drop {ps : Bag} (h : BagOk ps) (k : Nat) : BagOk (ps.drop k) := ⟨h.asc.sublist (List.drop_sublist k ps), fun p hp => h.nam p (List.mem_of_mem_drop hp), fun p hp => h.pos p (List.mem_of_mem_drop hp)⟩
/-! ### a tuple times a number -/
end TP

namespace TP
open PySem PySem.Spec PyProof.Rows L2
/-! ### sorted(.., reverse=True) of numbers -/
section
variable {K : PySem.W.Frag} {σ : L2.St} {H : Hp} {Q : VK} {t tk : TA} {a : Addr}
end
/-! ### the number at place c of the ranks -/
def CutR (t : Bag) (c : Int) (x : Int) : Prop := ∃ ns : List Int, ns.Perm (t.map (·.2)) ∧ ns.Pairwise (· ≥ ·) ∧ x = if c < (ns.length : Int) then ns.getD c.toNat 0 else 0
/-! ### tables of several bags -/
/-- two bags merged: what is above the rank's number, lowered by it -/
def MergeR (c : Int) (ps qs r : Bag) : Prop := ∃ x, CutR (tabOf (ps ++ qs)) c x ∧ IsCan (fun n => posI (cntC (ps ++ qs) n - x)) r
/-- every number less x -/
def subT (t : Bag) (x : Int) : Bag := t.map fun p => (p.1, p.2 - x)
end TP

namespace TP
open PySem PySem.Spec PyProof.Rows L2
/-! ### a + b arrivals of a name are a and then b -/
/-! ### one by one -/
def stepN (c : Int) (z : Bag × Int) (n : Str) : Bag × Int := ((arrT c z.1 n 1).1, z.2 + (arrT c z.1 n 1).2)
def unitsT (c : Int) (t : Bag) (ns : List Str) : Bag × Int := ns.foldl (stepN c) (t, 0)
/-- what one more arrival, somewhere ahead, has changed -/
inductive Late (c : Int) (t : Bag) (l : Int) (t' : Bag) (l' : Int) : Prop
  | more (k : Str) (h : ∀ n, getT t' n = getT t n + if n = k then 1 else 0) (e : l' = l) : Late c t l t' l'
  | less (f : (t.length : Int) = c) (h : ∀ n, getT t' n = posI (getT t n - 1)) (e : l' = l + 1) : Late c t l t' l'
end TP

namespace TP
open PySem PySem.Spec PyProof.Rows L2
/-! ### dict(..) of a list of pairs -/
def rDictP (K : PySem.W.Frag) : List V → Hp → VK → Prop := fun xs H Q => ∃ (a : Addr) (ps : List Addr) (kvs : List (Key × V)), xs = [.ref a] ∧ SqL K H a (ps.map V.ref) ∧ Paired (fun p kv => SqT K H p [kV kv.1, kv.2]) ps kvs ∧
    ∀ p, H p = none → Q (.ref p) (upd H p (.dK (mergeK [] kvs)))
end TP

namespace TP
open PySem PySem.Spec PyProof.Rows L2
/-! ### tuples alone are as they were -/
def SameU (H H' : Hp) : Prop := ∀ a o, H a = some o → ((∃ xs, o = .tup xs) ∨ ∃ ob xs, o = .frz ob (.tup xs)) → H' a = some o
theorem SameU.sqt {K : PySem.W.Frag} {H H' : Hp} {a : Addr} {xs : List V} (s : SameU H H') (h : SqT K H a xs) : SqT K H' a xs := by
  rcases h with (h | ⟨o, h⟩) | h
  · exact .inl (.inl (s _ _ h (.inl ⟨_, rfl⟩)))
  · exact .inl (.inr ⟨o, s _ _ h (.inr ⟨_, _, rfl⟩)⟩)
  · exact .inr h
mutual
theorem dp_flatU {K : PySem.W.Frag} {H H' : Hp} (s : SameU H H') : ∀ {v : V} {d : PyData}, Dp K H v d → flatD d = true → Dp K H' v d
  | _, _, .non, _ => .non
  | _, _, .bl b, _ => .bl b
  | _, _, .int i, _ => .int i
  | _, _, .str x, _ => .str x
  | _, _, .lst h r, f => by simp [flatD] at f
  | _, _, .tup h r, f => .tup (s.sqt h) (dps_flatU s r (by simpa [flatD] using f))
theorem dps_flatU {K : PySem.W.Frag} {H H' : Hp} (s : SameU H H') : ∀ {vs : List V} {ds : List PyData}, DpAll K H vs ds → flatDs ds = true → DpAll K H' vs ds
  | _, _, .nil, _ => .nil
  | _, _, .cons h r, f => by
    have f2 := Bool.and_eq_true_iff.mp (show (flatD _ && flatDs _) = true from f)
    exact .cons (dp_flatU s h f2.1) (dps_flatU s r f2.2)
end
theorem SameU.trans {H H1 H2 : Hp} (a : SameU H H1) (b : SameU H1 H2) : SameU H H2 := fun c o h n => b c o (a c o h n) n
/-! ### small things -/
section
variable {K : PySem.W.Frag} {H : Hp} {Q : VK} {a l : Addr} {x : Str} {ws : List Str}
end
/-! ### data that can be compared -/
/-! ### names of tables -/
end TP

namespace TP
open PySem PySem.Spec PyProof.Rows L2
/-! ### special methods of a class of the program: len, repr, str, bool, == -/
section
variable {X : Cx} {CX : CXT} {k n : Nat} {f : Addr} {fd : FuncData} {C m q : Str} {st : Stmt} {ps : List Str} {js : List Nat} {sp : Sp} {E : XK} {fs : List Str} {g : List Value → List Value → List Value} {gV : List V → List V → List V}
def rLenO (C : Addr) (sp : Sp) (js : List Nat) (E : XK) : List V → Hp → VK → Prop := fun xs H Q => ∃ a dx fl, xs = [.ref a] ∧ H a = some (.ins C dx fl) ∧ sp (pick js ([.ref a] ++ [] ++ [])) H (fun v H' => ∃ n : Int, v = .int n ∧ 0 ≤ n ∧ n < 2 ^ 63 ∧ Q (.int n) H') E
def rStrO (C : Addr) (sp : Sp) (js : List Nat) (E : XK) : List V → Hp → VK → Prop := fun xs H Q => ∃ a dx fl, xs = [.ref a] ∧ H a = some (.ins C dx fl) ∧ sp (pick js ([.ref a] ++ [] ++ [])) H (fun v H' => ∃ y : Str, v = .str y ∧ Q (.str y) H') E
def rBoolO (C : Addr) (sp : Sp) (js : List Nat) (E : XK) : List V → Hp → VK → Prop := fun xs H Q => ∃ a dx fl, xs = [.ref a] ∧ H a = some (.ins C dx fl) ∧ sp (pick js ([.ref a] ++ [] ++ [])) H (fun v H' => ∃ n : Int, v = .int n ∧ 0 ≤ n ∧ n < 2 ^ 63 ∧ Q (.bl (n != 0)) H') E
end
/-! truth by a class's __len__ -/
section
variable {prog : Program} {w : World} {A : Around} {E : Value → Shared → Prop} {s : Shared} {K : PySem.W.Frag} {x C f : Addr} {ox : Obj} {od : Option Obj}
end
section
variable {X : Cx} {CX : CXT} {k n : Nat} {f : Addr} {fd : FuncData} {C m q : Str} {st : Stmt} {ps : List Str} {js : List Nat} {sp : Sp} {E : XK}
/-! == -/
def rEqO (C : Addr) (sp : Sp) (js : List Nat) (E : XK) : R2 := fun x y H Q => ∃ a b dx dy fl gl, x = .ref a ∧ y = .ref b ∧ H a = some (.ins C dx fl) ∧ H b = some (.ins C dy gl) ∧ sp (pick js ([.ref a, .ref b] ++ [] ++ [])) H (fun v H' => ∃ c : Bool, v = .bl c ∧ Q (.bl c) H') E
end
section
variable {X : Cx} {CX : CXT} {k n : Nat} {C q : Str} {st : Stmt} {ps : List Str} {js : List Nat} {sp : Sp} {E : XK} {fs : List Str} (K : PySem.W.Frag)
end
section
variable {K : PySem.W.Frag} {H : Hp} {Q : VK} {v w : V} {c d : Int} {ps qs : Bag} {sp : Sp} {js : List Nat} {E : XK}
end
end TP

namespace TP
open PySem PySem.Spec PyProof.Rows L2
/-! ### what a name loses -/
def sgnB (s : Int) (ps : Bag) : Bag := ps.map fun p => (p.1, s * p.2)
/-! ### what merging takes away -/
end TP

namespace TP
open PySem PySem.Spec PyProof.Rows L2
/-! ### texts of counts -/
def intS (i : Int) : Str := Str.ofString (toString i)
def ptS (p : Str × Int) : Str := p.1 ++ (":" : Str) ++ intS p.2
def cText (ps : Bag) : Str := if ps = [] then "-" else Txt.join " " (ps.map ptS)
/-! readings of texts -/
def FmtC (x : V) (H : Hp) (Q : VK) : Prop := (∃ y : Str, x = .str y ∧ y.length ≤ sizeLine ∧ Q (.str y) H) ∨ ∃ i : Int, x = .int i ∧ i.natAbs.log2 < 1920 ∧ Q (.str (toString i)) H
def JsC (ts : List TE) (acc : Str) (σ : L2.St) (Q : Str → Hp → Prop) (x : V) (H : Hp) : Prop := ∃ y : Str, x = .str y ∧ (acc ++ y).length ≤ sizeLine ∧ tJs ts (acc ++ y) σ H Q
def tJoined (ts : List TE) : TE := fun σ H Q => tJs ts Str.empty σ H fun out H1 => Q (.str out) H1
def rStrI : List V → Hp → VK → Prop := fun xs H Q => ∃ i, xs = [.int i] ∧ i.natAbs.log2 < 1920 ∧ Q (.str (toString i)) H
def rStrS : List V → Hp → VK → Prop := fun xs H Q => ∃ a, xs = [.str a] ∧ Q (.str a) H
def OrC (K : PySem.W.Frag) (tb : TE) (σ : L2.St) (Q : VK) (x : V) (H : Hp) : Prop := ∃ k, TruV K x H k ∧ if k = true then Q x H else tb σ H Q
def AndC (K : PySem.W.Frag) (tb : TE) (σ : L2.St) (Q : VK) (x : V) (H : Hp) : Prop := ∃ k, TruV K x H k ∧ if k = true then tb σ H Q else Q x H
section
variable {K : PySem.W.Frag} {σ : L2.St} {H : Hp} {Q : VK} {QS : Str → Hp → Prop} {te ta tb : TE} {ts : List TE} {acc y : Str} {i : Int}
end
/-! ### bags that are compared -/
section
variable {K : PySem.W.Frag} {H : Hp} {Q : VK} {v w : V} {ps qs : Bag}
end
end TP

namespace TP
open PySem PySem.Spec PyProof.Rows L2
/-! ### dicts that are compared -/
def rNeDt : R2 := fun x y H Q => ∃ a b s t, x = .ref a ∧ y = .ref b ∧ H a = some (.dK (kvOf s)) ∧ H b = some (.dK (kvOf t)) ∧ TabOk s ∧ s.Perm t ∧ Q (.bl false) H
end TP

namespace TP
open PySem PySem.Spec PyProof.Rows L2
/-! ### sorted(..) of pairs of a name and a number -/
def PairAt (h : Heap) (v : Value) (y : Str) (i : Int) : Prop := ∃ a t u o n, v = Value.ref a ∧ h.get? a = some o ∧ o.cls = .type "tuple" ∧ o.data = .seq #[Value.str y t, Value.int i u] n
def nmAt (h : Heap) (v : Value) : Str := match v with
  | .ref a => match h.get? a with
    | some o => match o.data with
      | .seq its _ => match its[0]? with
        | some (Value.str y _) => y
        | _ => Str.empty
      | _ => Str.empty
    | none => Str.empty
  | _ => Str.empty
theorem PairAt.nm {h : Heap} {v : Value} {y : Str} {i : Int} (x : PairAt h v y i) : nmAt h v = y := by
  obtain ⟨a, t, u, o, n, rfl, ho, hc, hd⟩ := x
  unfold nmAt
  simp only [ho, hd]
  rfl
theorem PairAt.keeps {h h' : Heap} {v : Value} {y : Str} {i : Int} (x : PairAt h v y i) (k : ∀ b o, h.get? b = some o → o.cls = .type "tuple" → h'.get? b = some o) : PairAt h' v y i := by
  obtain ⟨a, t, u, o, n, rfl, ho, hc, hd⟩ := x
  exact ⟨a, t, u, o, n, rfl, k a o ho hc, hc, hd⟩
section
variable {prog : Program} {w : World} {A : Around} {E : Value → Shared → Prop} {s : Shared}
end
/-! the rank of a name among names -/
def rankS (l : List Str) (y : Str) : Int := ((l.filter fun x => decide (ltS x y)).length : Nat)
def rSortedB (K : PySem.W.Frag) : List V → Hp → VK → Prop := fun vs H Q => ∃ (a : Addr) (xs : List V) (ps : Bag), vs = [V.ref a] ∧ SqL K H a xs ∧ DpAll K H xs (ps.map pairD) ∧ (keys ps).Nodup ∧ ps.length < 64 ∧
  ∀ (ys : List V) (qs : Bag) (p : Addr), qs.Perm ps → (qs.Pairwise fun a b => ltS a.1 b.1) → DpAll K H ys (qs.map pairD) → H p = none → Q (.ref p) (upd H p (.lst ys))
section
variable {X : Cx}
end
end TP

namespace TP
open PySem PySem.Spec PyProof.Rows L2
/-! ### a list taken apart -/
/-! ### data by names -/
/-- a table in the order of its names, zeros too -/
def tabF (t : Bag) (ys : List Str) : Bag := ys.map fun y => (y, getT t y)
/-! ### true counts that fit -/
structure FitV (c : Int) (ps : Bag) (d : Int) (fs : Bag) : Prop where
  ok : BagOk fs
  len : fs.length ≤ 12
  low : ∀ n, getT ps n ≤ getT fs n
  hi : ∀ n, getT fs n ≤ getT ps n + d
  sum : sumC fs = sumC ps + d * (c + 1)
end TP

namespace TP
open PySem PySem.Spec PyProof.Rows L2
/-! ### == and != of an object and any value -/
section
variable {prog : Program} {w : World} {A : Around} {E : Value → Shared → Prop} {s : Shared} {K : PySem.W.Frag} {x C f : Addr} {ox : Obj} {od : Option Obj} {b tb : Value}
end
def rCmpO (K : PySem.W.Frag) (neg : Bool) (C : Addr) (sp : Sp) (js : List Nat) (E : XK) : R2 := fun x y H Q => ∃ a dx fl t, x = .ref a ∧ H a = some (.ins C dx fl) ∧ TyX K H y t ∧ (t = .ref C ∨ PySem.W.kitOne K t (.ref C) = some false) ∧
  sp (pick js ([x, y] ++ [] ++ [])) H (fun v H' => ∃ c : Bool, v = .bl c ∧ Q (.bl (if neg then !c else c)) H') E
section
variable {X : Cx} {CX : CXT} {k n : Nat} {C q : Str} {st : Stmt} {ps : List Str} {js : List Nat} {sp : Sp} {E : XK} {fs : List Str} (K : PySem.W.Frag)
end
section
variable {K : PySem.W.Frag} {mg : Str → Option Value} {H : Hp} {Q : VK} {v w : V} {c d : Int} {ps qs : Bag} {sp : Sp} {js : List Nat} {E : XK} {neg : Bool}
end
end TP

namespace TP
open PySem PySem.Spec PyProof.Rows L2
/-! ### the shown text of a summary's attributes is one to one -/
section
open TL
def encP (p : Str × Int) : List Nat := [40, 39] ++ (tl p.1 ++ 39 :: ([44, 32] ++ (numL p.2.toNat ++ 41 :: [])))
def contP : Bag → List Nat
  | [] => []
  | p :: r => [44, 32] ++ (encP p ++ contP r)
def bodyP : Bag → List Nat
  | [] => []
  | p :: r => encP p ++ contP r
def tailP (n : Nat) : List Nat := if n = 1 then [44, 41] else [41]
end
/-! ### all that a summary tells of itself, shown -/
def okS (x : Str) : Prop := ∀ c ∈ x.cps.toList, c < 16 ^ 8
def rText (c : Int) (ps : Bag) : Str := ("Summary(" : Str) ++ intS c ++ (", '" : Str) ++ cText ps ++ ("')" : Str)
def shA (c : Int) (ps : Bag) : List PyData := [.int c, bagD ps, .int (ps.length : Nat), .bool (((ps.length : Nat) : Int) != 0), .int (sumC ps), .bool (decide ((ps.length : Int) = c)), .int (getT ps "a")]
def shB (c : Int) (ps : Bag) : List PyData := [.str (cText ps), .str (rText c ps), .bool true]
def shD (c : Int) (ps : Bag) : PyData := .list (shA c ps ++ shB c ps)
/-! ### lists of summaries -/
theorem sum_t {K : PySem.W.Frag} {H H' : Hp} {v : V} {c : Int} {ps : Bag} (s : SameT H H') (h : SumO K H v c ps) : SumO K H' v c ps := by
  obtain ⟨a, dx, b, rfl, h1, h2⟩ := h
  exact ⟨a, dx, b, rfl, s _ _ h1 (fun _ => nofun) (fun _ => nofun), dp_flat s h2 (flat_bag ps)⟩
def Sums (K : PySem.W.Frag) (H : Hp) (lo hi B : Int) (ms : List V) : Prop := ∀ y ∈ ms, ∃ d qs, SumO K H y d qs ∧ SumV d qs ∧ lo ≤ d ∧ d ≤ hi ∧ sumC qs ≤ B
section
variable {K : PySem.W.Frag} {H H' : Hp} {lo hi B : Int} {ms : List V}
theorem Sums.same (s : Same H H') (h : Sums K H lo hi B ms) : Sums K H' lo hi B ms := fun y hy => by
  obtain ⟨d, qs, h1, h2⟩ := h y hy
  exact ⟨d, qs, sum_same s h1, h2⟩
theorem Sums.t (s : SameT H H') (h : Sums K H lo hi B ms) : Sums K H' lo hi B ms := fun y hy => by
  obtain ⟨d, qs, h1, h2⟩ := h y hy
  exact ⟨d, qs, sum_t s h1, h2⟩
theorem Sums.snoc {v : V} {d : Int} {qs : Bag} (h : Sums K H lo hi B ms) (ho : SumO K H v d qs) (hv : SumV d qs) (h1 : lo ≤ d) (h2 : d ≤ hi) (h3 : sumC qs ≤ B) : Sums K H lo hi B (ms ++ [v]) := fun y hy => by
  rcases List.mem_append.mp hy with h' | h'
  · exact h y h'
  · rw [List.mem_singleton.mp h']; exact ⟨d, qs, ho, hv, h1, h2, h3⟩
theorem Sums.app {ns : List V} (h : Sums K H lo hi B ms) (h' : Sums K H lo hi B ns) : Sums K H lo hi B (ms ++ ns) := fun y hy => by
  rcases List.mem_append.mp hy with z | z
  · exact h y z
  · exact h' y z
theorem Sums.le {lo' hi' B' : Int} (h : Sums K H lo hi B ms) (h1 : lo' ≤ lo) (h2 : hi ≤ hi') (h3 : B ≤ B') : Sums K H lo' hi' B' ms := fun y hy => by
  obtain ⟨d, qs, a1, a2, a3, a4, a5⟩ := h y hy
  exact ⟨d, qs, a1, a2, by omega, by omega, by omega⟩
end
/-! ### values that are no objects of an own class -/
def Plain (K : PySem.W.Frag) (H : Hp) (z : V) : Prop := (∃ e, Dp K H z e) ∨ (∃ a xs, z = .ref a ∧ H a = some (.lst xs)) ∨ ∃ a kvs, z = .ref a ∧ H a = some (.dK kvs)
theorem Plain.same {K : PySem.W.Frag} {H H' : Hp} {z : V} (s : Same H H') (h : Plain K H z) : Plain K H' z := by
  rcases h with ⟨e, h⟩ | ⟨a, xs, rfl, h⟩ | ⟨a, xs, rfl, h⟩
  · exact .inl ⟨e, dp_same s h⟩
  · exact .inr (.inl ⟨a, xs, rfl, s _ _ h⟩)
  · exact .inr (.inr ⟨a, xs, rfl, s _ _ h⟩)
theorem Plain.ty {K : PySem.W.Frag} {H : Hp} {z : V} (h : Plain K H z) : ∃ T, T ∈ ["NoneType", "bool", "int", "str", "list", "tuple", "dict"] ∧ TyX K H z (.type T) := by
  rcases h with ⟨e, h⟩ | ⟨a, xs, rfl, h⟩ | ⟨a, xs, rfl, h⟩
  · exact ⟨_, by cases e <;> simp [tyD], ty_dp h⟩
  · exact ⟨"list", by simp, .base (.lst h)⟩
  · exact ⟨"dict", by simp, .base (.dK h)⟩
end TP

namespace TP
open PySem PySem.Spec PyProof.Rows L2
/-! ### slots (the class Replacing) -/
abbrev repF : List Str := ["slots", "counts", "__bool__"]
structure RepV (c : Int) (ps : Bag) : Prop where
  c2 : 2 ≤ c
  c9 : c ≤ 9
  ok : BagOk ps
  len : (ps.length : Int) ≤ c
def RepO (K : PySem.W.Frag) (H : Hp) (v : V) (c : Int) (ps : Bag) : Prop := ∃ a dx b, v = .ref a ∧ H a = some (.ins (He.ga K "Replacing") dx [("slots", .int c), ("counts", b)]) ∧ Dp K H b (bagD ps)
def spInitR (K : PySem.W.Frag) : Sp := fun vs H Q _ => ∃ (x dx : Addr) (c : Int) (ps : Bag) (b : V), vs = [.ref x, .int c, b] ∧ H x = some (.ins (He.ga K "Replacing") dx []) ∧ Dp K H b (bagD ps) ∧ RepV c ps ∧
  ∀ H', SameB x H H' → H' x = some (.ins (He.ga K "Replacing") dx [("slots", .int c), ("counts", b)]) → Q .non H'
section
variable {K : PySem.W.Frag} {mg : Str → Option Value} {H H' : Hp} {Q : VK} {v : V} {c : Int} {ps : Bag}
end
section
variable {K : PySem.W.Frag} {mg : Str → Option Value} {H H' : Hp} {Q : VK} {v w : V} {c d : Int} {ps qs : Bag} {sp : Sp} {js : List Nat} {E : XK} {neg : Bool}
end
/-! ### what slots tell of themselves -/
def rTextR (c : Int) (ps : Bag) : Str := ("Replacing(" : Str) ++ intS c ++ (", '" : Str) ++ cText ps ++ ("')" : Str)
def leastR (c : Int) (ps : Bag) : Int := if (ps.length : Int) = c then minV ps else 0
def tellD (c : Int) (ps : Bag) : PyData := .list [.int c, bagD ps, .int (leastR c ps), .int (ps.length : Nat), .bool (!decide (ps = [])), .str (cText ps), .str (rTextR c ps)]
/-! ### pairs of a number of slots and counts -/
def PrO (K : PySem.W.Frag) (H : Hp) (y : V) : Prop := ∃ t w d qs, y = .ref t ∧ SqT K H t [.int d, w] ∧ Dp K H w (bagD qs) ∧ 2 ≤ d ∧ d ≤ 9 ∧ BagOk qs ∧ BagS qs ∧ qs.length ≤ 100
theorem PrO.same {K : PySem.W.Frag} {H H' : Hp} {y : V} (s : Same H H') (h : PrO K H y) : PrO K H' y := by
  obtain ⟨t, w, d, qs, e, h1, h2, h3⟩ := h
  exact ⟨t, w, d, qs, e, sqt_same s h1, dp_same s h2, h3⟩
theorem PrO.t {K : PySem.W.Frag} {H H' : Hp} {y : V} (s : SameT H H') (h : PrO K H y) : PrO K H' y := by
  obtain ⟨t, w, d, qs, e, h1, h2, h3⟩ := h
  exact ⟨t, w, d, qs, e, s.sqt h1, dp_flat s h2 (flat_bag qs), h3⟩
/-! ### a tuple times 0 or 1 -/
def rRepB (K : PySem.W.Frag) : R2 := fun x y H Q => ∃ l k xs, x = .ref l ∧ y = .int k ∧ SqT K H l xs ∧ xs ≠ [] ∧ ((k = 0 ∧ ∀ p, H p = none → Q (.ref p) (upd H p (.tup []))) ∨ (k = 1 ∧ Q (.ref l) H))
end TP

namespace TP
open PySem PySem.Spec PyProof.Rows L2
/-! ### {**a, **b} -/
section
variable {prog : Program} {w : World} {A : Around} {E : Value → Shared → Prop} {s : Shared}
end
/-- {**a, **b}: the new dict stands while the parts are read -/
def tDMrg (ta tb : TE) : TE := fun σ H Q => ∀ p, H p = none → ta σ (upd H p (.dK [])) fun x H1 => ∃ a kvs, x = .ref a ∧ a ≠ p ∧ Rd H1 a (.dK kvs) ∧ H1 p = some (.dK []) ∧
  tb σ (upd H1 p (.dK (mergeK [] kvs))) fun y H2 => ∃ b kvs2, y = .ref b ∧ b ≠ p ∧ Rd H2 b (.dK kvs2) ∧ H2 p = some (.dK (mergeK [] kvs)) ∧ kvs.length + kvs2.length ≤ 10000 ∧ Q (.ref p) (upd H2 p (.dK (mergeK (mergeK [] kvs) kvs2)))
/-! tables joined -/
def mrgT (s t : Bag) : Bag := t.foldl (fun acc q => putT acc q.1 q.2) s
/-! ### true counts that fit, by names -/
def FitB (ps : Bag) (d N : Int) (qs : Bag) : Prop := sumC qs = N ∧ ∀ n, getT ps n ≤ getT qs n ∧ getT qs n ≤ getT ps n + d
theorem FitV.b {c : Int} {ps : Bag} {d N : Int} {fs : Bag} (h : FitV c ps d fs) (hN : N = sumC ps + d * (c + 1)) : FitB ps d N fs := ⟨by rw [h.sum, hN], fun n => ⟨h.low n, h.hi n⟩⟩
/-! ### values that are bags -/
def Bags (K : PySem.W.Frag) (H : Hp) (xs : List V) : Prop := ∀ y ∈ xs, ∃ qs, Dp K H y (bagD qs) ∧ BagOk qs ∧ qs.length ≤ 12
section
variable {K : PySem.W.Frag} {H H' : Hp} {xs ys : List V}
theorem Bags.same (h : Bags K H xs) (s : Same H H') : Bags K H' xs := fun y hy => by
  obtain ⟨qs, h1, h2⟩ := h y hy
  exact ⟨qs, dp_same s h1, h2⟩
theorem Bags.t (h : Bags K H xs) (s : SameT H H') : Bags K H' xs := fun y hy => by
  obtain ⟨qs, h1, h2⟩ := h y hy
  exact ⟨qs, dp_flat s h1 (flat_bag qs), h2⟩
theorem Bags.app (h : Bags K H xs) (h' : Bags K H ys) : Bags K H (xs ++ ys) := fun y hy => (List.mem_append.mp hy).elim (h y) (h' y)
theorem Bags.one {v : V} {qs : Bag} (h : Dp K H v (bagD qs)) (ho : BagOk qs) (hl : qs.length ≤ 12) : Bags K H [v] := fun y hy => by
  rw [List.mem_singleton.mp hy]; exact ⟨qs, h, ho, hl⟩
theorem Bags.two {v w : V} {ps qs : Bag} (h : Dp K H v (bagD ps)) (ho : BagOk ps) (hl : ps.length ≤ 12) (h' : Dp K H w (bagD qs)) (ho' : BagOk qs) (hl' : qs.length ≤ 12) : Bags K H [v, w] := (Bags.one h ho hl).app (.one h' ho' hl')
end
end TP

namespace TP
open PySem PySem.Spec PyProof.Rows L2
end TP

namespace TP
open PySem PySem.Spec PyProof.Rows L2
/-! ### min of texts, max with a default -/
def rMinS (K : PySem.W.Frag) : List V → Hp → VK → Prop := fun vs H Q => ∃ (a : Addr) (ws : List Str), vs = [V.ref a] ∧ SqL K H a (ws.map V.str) ∧ 0 < ws.length ∧ ∀ m, m ∈ ws → (∀ y, y ∈ ws → ¬ ltS y m) → Q (.str m) H
def rMaxD (K : PySem.W.Frag) : List V → List V → Hp → VK → Prop := fun vs zs H Q => ∃ (a : Addr) (ns : List Int) (d : Int), vs = [V.ref a] ∧ zs = [.int d] ∧ SqL K H a (ns.map V.int) ∧ (ns = [] → Q (.int d) H) ∧ ∀ m, m ∈ ns → (∀ y, y ∈ ns → y ≤ m) → Q (.int m) H
section
variable {X : Cx}
end
section
variable {K : PySem.W.Frag} {H : Hp} {Q : VK} {a : Addr}
/-! del d[k], d[k] += v -/
def DelC (x y : V) (H : Hp) (k : Hp → Prop) : Prop := ∃ a kvs kk, x = .ref a ∧ H a = some (.dK kvs) ∧ y = kV kk ∧ (valV kvs kk).isSome = true ∧ k (upd H a (.dK (dropK kvs kk)))
def dropT (t : Bag) (n : Str) : Bag := t.filter fun p => decide (p.1 ≠ n)
/-- d[k] += v of numbers -/
def AugC (x y : V) (tv : TE) (σ : L2.St) (rd : V → V → Hp → VK → Prop) (H : Hp) (k : Hp → Prop) : Prop := ∃ a v, x = .ref a ∧ DGet H a y (some v) ∧ tv σ H fun y2 H3 => rd v y2 H3 fun z H4 => ∃ H5, DPut H4 a y z H5 ∧ k H5
end
end TP

namespace TP
open PySem PySem.Spec PyProof.Rows L2
/-! ### the replacing rule -/
open Classical in
noncomputable def minN (l : List Str) : Str := if h : ∃ m, m ∈ l ∧ ∀ y ∈ l, ¬ ltS y m then Classical.choose h else Str.empty
def losersT (t : Bag) : List Str := (t.filter fun p => decide (p.2 = minV t)).map (·.1)
noncomputable def loserT (t : Bag) : Str := minN (losersT t)
open Classical in
noncomputable def plcT (c : Int) (t : Bag) (n : Str) (m : Int) : Bag :=
  if n ∈ keys t then putT t n (getT t n + m) else if (t.length : Int) = c then dropT t (loserT t) ++ [(n, minV t + m)] else t ++ [(n, m)]
/-! what the least count is, by the numbers -/
def InStep (c : Int) (t t' : Bag) (n : Str) (m : Int) : Prop := (∀ x, getT (lowT t' (leastR c t')) x = getT (arrT (c - 1) (lowT t (leastR c t)) n m).1 x) ∧ leastR c t' = leastR c t + (arrT (c - 1) (lowT t (leastR c t)) n m).2
/-- above the least count, and how much it rose -/
def Above (c : Int) (t t' s : Bag) (l : Int) : Prop := (lowT t' (leastR c t')).Perm s ∧ leastR c t' = leastR c t + l
noncomputable def plcs (c : Int) (t : Bag) (rs : Bag) : Bag := rs.foldl (fun t r => plcT c t r.1 r.2) t
end TP

namespace TP
open PySem PySem.Spec PyProof.Rows L2
/-! ### sorted of a tuple of pairs -/
section
variable {prog : Program} {w : World} {A : Around} {E : Value → Shared → Prop} {s : Shared}
end
def rSortedBT (K : PySem.W.Frag) : List V → Hp → VK → Prop := fun vs H Q => ∃ (a : Addr) (xs : List V) (ps : Bag), vs = [V.ref a] ∧ SqT K H a xs ∧ DpAll K H xs (ps.map pairD) ∧ (keys ps).Nodup ∧ ps.length < 64 ∧
  ∀ (ys : List V) (qs : Bag) (p : Addr), qs.Perm ps → (qs.Pairwise fun a b => ltS a.1 b.1) → DpAll K H ys (qs.map pairD) → H p = none → Q (.ref p) (upd H p (.lst ys))
section
variable {X : Cx}
end
/-! d.pop(k) -/
end TP

namespace TP
open PySem PySem.Spec PyProof.Rows L2
def RevC (K : PySem.W.Frag) (x : V) (H : Hp) (Q : VK) : Prop := ∃ a xs, x = .ref a ∧ SqL K H a xs ∧ ∀ p, H p = none → Q (.ref p) (upd H p (.lst xs.reverse))
/-! ### bags with any numbers, shown -/
def BagI (ps : Bag) : Prop := ∀ p ∈ ps, isName p.1 = true ∧ p.2.natAbs ≤ 10 ^ 100
/-! ### losses -/
def lossT (p1 p2 p3 : Bag) : Bag := tabOf (p1 ++ p2 ++ sgnB (-1) p3)
def nzF (t : Bag) (ys : List Str) : Bag := ys.filterMap fun y => if getT t y = 0 then none else some (y, getT t y)
/-- the numbers of a table but the zeros, ascending -/
def NzB (t ls : Bag) : Prop := ∃ ys : List Str, ys.Perm (keys t) ∧ ys.Pairwise ltS ∧ ls = nzF t ys
end TP

namespace TP
open PySem PySem.Spec PyProof.Rows L2
/-! ### obstacles of merging -/
def maxV0 (t : Bag) : Int := (t.map (·.2)).foldl max 0
def loD (c : Int) (t : Bag) : Int := max (maxV0 t) ((sumC t + 2 * c - 1) / (2 * c))
def hiD (c : Int) (t : Bag) : Int := sumC t / (c + 1)
def GainR (t : Bag) (gs : List Str) : Prop := ∃ ys : List Str, ys.Perm (keys t) ∧ ys.Pairwise ltS ∧ gs = ys.filter fun y => decide (getT t y < 0)
/-- what merge_obstacle tells -/
def ObsD (c : Int) (t : Bag) (d : PyData) : Prop := ∃ gs, GainR t gs ∧ ((∃ y r, gs = y :: r ∧ d = .tuple [.str "gain", .str y]) ∨ (gs = [] ∧ d = if loD c t ≤ hiD c t then .none else .tuple [.str "range", .int (loD c t), .int (hiD c t)]))
def noneD : PyData → Bool
  | .none => true
  | _ => false
end TP

namespace TP
open PySem PySem.Spec PyProof.Rows L2
/-! ### xs.extend(t), t a tuple -/
def rExtendT (K : PySem.W.Frag) : V → List V → Hp → VK → Prop := fun x vs H Q => ∃ l b xs zs, x = .ref l ∧ vs = [.ref b] ∧ H l = some (.lst xs) ∧ SqT K H b zs ∧ xs.length + zs.length ≤ sizeLine ∧ Q .non (upd H l (.lst (xs ++ zs)))
/-! ### orders one behind the other -/
end TP

namespace TP
open PySem PySem.Spec PyProof.Rows L2
/-! ### how many names can be ahead -/
def grd (d : Int) (z : Int × Int) (ns : List Int) : Int × Int := ns.foldl (fun z n => if n ≤ min d z.1 then (z.1 - n, z.2 + 1) else z) z
/-- a part of a list -/
def PartOf (S l : List Int) : Prop := ∃ r, (S ++ r).Perm l
def worth (g d U : Int) (q : Int × Int) : Int := q.1 + if g ≤ d then (U - q.2) / g else 0
/-! all choices -/
def choF (acc : List (Int × Int)) (n : Int) : List (Int × Int) := acc ++ acc.map fun q => (q.1 + 1, q.2 + n)
def cho (ns : List Int) : List (Int × Int) := ns.foldl choF [(0, 0)]
def bestF (g d U : Int) (b : Int) (q : Int × Int) : Int := if q.2 ≤ U then max b (worth g d U q) else b
def iiD (q : Int × Int) : PyData := .tuple [.int q.1, .int q.2]
def needL (g : Int) (ps : Bag) (x : Str) : List Int := (ps.filter fun p => !decide (p.1 = x)).map fun p => if g - p.2 > 0 then g - p.2 else 0
def aheadL (c d : Int) (ps : Bag) (x : Str) : Int := (cho ((needL (getT ps x + 1) ps x).filter fun n => decide (n ≤ d))).foldl (bestF (getT ps x + 1) d (d * (c + 1))) 0
end TP

namespace TP
open PySem PySem.Spec PyProof.Rows L2 TL
/-! ### texts of orders -/
def wrdS (p : Str × Int) : Str := if 1 < p.2 then p.1 ++ ("*" : Str) ++ intS p.2 else p.1
def oText (rs : Bag) : Str := if rs = [] then "-" else Txt.join " " (rs.map wrdS)
def rIntS : List V → Hp → VK → Prop := fun xs H Q => ∃ (a : Str) (n : Int), xs = [.str a] ∧ intText? a = some n ∧ a.length ≤ 640 ∧ Q (.int n) H
/-! ### runs that are cut -/
def PartsOf (n : Str) (m : Int) (qs : Bag) : Prop := qs ≠ [] ∧ (∀ q ∈ qs, q.1 = n ∧ 1 ≤ q.2) ∧ sumC qs = m
inductive CutOf : Bag → Bag → Prop
  | nil : CutOf [] []
  | snoc {rs qs ps : Bag} {r : Str × Int} (h : CutOf rs qs) (hp : PartsOf r.1 r.2 ps) : CutOf (rs ++ [r]) (qs ++ ps)
def Alike (c : Int) (ps rs qs : Bag) : Prop := OrdOk qs ∧ (playT c ps qs).1.Perm (playT c ps rs).1 ∧ (playT c ps qs).2 = (playT c ps rs).2 ∧ ∀ x, cntC qs x = cntC rs x
end TP

namespace TP
open PySem PySem.Spec PyProof.Rows L2
/-! ### except (c1, c2, c3) as n -/
def wAs3 (K : PySem.W.Frag) (c1 c2 c3 : Value) (i : Nat) (ts : Addr → Value → Option Addr → TS) (Wout : WX) (D : Ends) : WX := fun cls d σ H =>
  ∃ b, PySem.W.exmAny K cls [c1, c2, c3] = some b ∧ (b = true → ∀ a, H a = none → ts a cls d { nx := fun σ' H' => D.nx (σ'.set i none) H', rt := D.rt, bk := fun σ' H' => D.bk (σ'.set i none) H', ct := fun σ' H' => D.ct (σ'.set i none) H' } (σ.set i (some (.ref a))) H) ∧
    (b = false → Wout cls d σ H)
section
variable {X : Cx} {x1 x2 x3 n : Str} {c1 c2 c3 : Value} {i kk : Nat} {body suite : List Stmt} {b₀ : Stmt} {np1 np2 np3 tpos pos pos' : Pos} {tb : WX → TS} {ts : Addr → Value → Option Addr → TS} {Wout : WX}
end
end TP
namespace TPX
open PySem PySem.W PySem.Spec PySem.Calls PyProof.Rows
section
variable {prog : Program} {w : World} {A : Around} {E : Value → Shared → Prop} {s : Shared} {K : Frag} {x D : Addr} {ox : Obj} {od : Option Obj}
end
end TPX
namespace TP
open PySem PySem.Spec PyProof.Rows L2
/-! ### the exception that is held, in the suite and in the defs that it is handed to -/
/-- p is pinned: an exception of the class at D, its dict at dd -/
structure Held (X : Cx) (p : Addr × Obj) (D dd : Addr) : Prop where
  pin : p ∈ X.pn
  z : Zc (.ref D) (some dd) p.2
  f : ∃ vs, p.2.data = .fields vs
def rIsP (K : PySem.W.Frag) (a D dd : Addr) : List V → Hp → VK → Prop := fun xs H Q => ∃ (c : V) (cv : Value) (b : Bool) (fs : List (Str × V)), xs = [.ref a, c] ∧ ClsV c cv ∧ H dd = some (.xd fs) ∧ PySem.W.kitOne K (.ref D) cv = some b ∧ Q (.bl b) H
def rIsPT (K : PySem.W.Frag) (a D dd : Addr) : List V → Hp → VK → Prop := fun xs H Q => ∃ (tp : Addr) (cs : List V) (us : List Value) (b : Bool) (fs : List (Str × V)), xs = [.ref a, .ref tp] ∧ H tp = some (.tup cs) ∧ Paired ClsV cs us ∧ H dd = some (.xd fs) ∧ PySem.W.kitAny K (.ref D) us = some b ∧ Q (.bl b) H
/-- e.f -/
def tXp (a dd : Addr) (f : Str) (te : TE) : TE := fun σ H Q => te σ H fun x H1 => x = .ref a ∧ ∃ (fs : List (Str × V)) (v : V), H1 dd = some (.xd fs) ∧ fs.lookup f = some v ∧ Q v H1
/-! ### defs that are handed the held exception -/
abbrev RoomH := L2H.RoomH
abbrev PinOk := L2H.PinOk
structure FnP (P : Program) (w : World) (K : PySem.W.Frag) (mg : Str → Option Value) (base : Heap) (k : Nat) (f : Addr) (fd : FuncData) (ps : List Str) (sp : Addr × Obj → Sp) : Prop where
  len : ∀ p vs H Q E, sp p vs H Q E → vs.length = ps.length
  run : ∀ (A : Around) (outer : List Env) (s : Shared) (H : Hp) (args : Args) (us : List Value) (vs : List V) (Q : VK) (E : XK) (p : Addr × Obj), RoomH k A → A.guards = some [] → PinOk outer H s p →
    Env0 P w K mg base A outer s H → BindsTo s fd args (ps.zip us) → Vals vs us → sp p vs H Q E → codeAny (model P w) A (.call (.ref f) args) (CR CX0 outer P w H s Q E) s
structure HasP (P : Program) (w : World) (K : PySem.W.Frag) (mg : Str → Option Value) (base : Heap) (k : Nat) (x : Str) (st : Stmt) (ps : List Str) (sp : Addr × Obj → Sp) : Prop where
  ex : ∃ fd, FunD K x x (defArgs st) (defBody st) (defScope st) [] [] (He.ga K x) fd ∧ FnP P w K mg base k (He.ga K x) fd ps sp
  glo : mg x = some (.ref (He.ga K x))
end TP

/-! the end of a law with tables of code objects (turned from HandS.EndTab: FnG in place of FnOk) -/
namespace TP
open PySem PySem.Spec PyProof.Rows L2 LamX
def LawAtG (l : PySem.W.OpenLaw) (w : World) (K : PySem.W.Frag) (k n : Nat) (x : Str) (mg : Str → Option Value) (fa : Addr) (h : Heap) : Prop :=
  ∃ (fd : FuncData) (cs : List (Addr × Addr)) (sp : Sp), (∀ p ∈ cs, h.get? p.2 = some { cls := .none, data := .fields #[] }) ∧ (∀ p ∈ cs, K.lookup p.2 = none) ∧ (∀ p ∈ cs, PySem.W.CodeHd h p.1 p.2) ∧ (∀ (s : Shared) (u : Value), BindsTo s fd ⟨[u], []⟩ [(x, u)]) ∧
    (∀ (H : Hp) (a : Addr) (ns : List Int), ns.length ≤ n → (∀ p ∈ cs, H p.2 = some (.tbl #[])) → SqL K H a (ns.map V.int) → sp [.ref a] H (fun v _ => v = .bl true) fun _ _ _ => False) ∧
    ∀ base : Heap, K.In base → base.Ns mainGlobals mg → (∀ p ∈ cs, TabB base mg p.1 p.2) → FnG l.prog w K mg base CX0 k fa fd [x] sp
end TP

/-! own error classes over ValueError, LookupError, ArithmeticError (turned from HandS.Exc and HandS.ExcInit: there ValueError alone) -/
namespace TPE
open PySem
inductive XB | ve | le | ae
def XB.nm : XB → String
  | .ve => "ValueError"
  | .le => "LookupError"
  | .ae => "ArithmeticError"
def XB.nw : XB → String
  | .ve => "ValueError.__new__"
  | .le => "LookupError.__new__"
  | .ae => "ArithmeticError.__new__"
def XB.it : XB → String
  | .ve => "ValueError.__init__"
  | .le => "LookupError.__init__"
  | .ae => "ArithmeticError.__init__"
abbrev XB.tl (b : XB) : List Value := [.type b.nm, .type "Exception", .type "BaseException", .type "object"]
theorem base (b : XB) : ExcBaseFacts b.nm b.nw b.it b.tl := by
  cases b
  · exact F.excBase_ValueError
  · exact F.excBase_LookupError
  · exact F.excBase_ArithmeticError
/-- own classes, then the base's -/
def refsXB (b : XB) : List Value → Bool
  | .ref _ :: r => refsXB b r
  | l => l == b.tl
end TPE
namespace TPE
open PySem PySem.HandSPX Builtin Builtin.ObjectAttr
section
variable {prog : Program} {w : World} {A : Around} {E : Value → Shared → Prop} {R : Result → Shared → Prop} {hp : Heap} {g : Array GenState} {d : Drawn} {t : Nat} {os : OsState}
end
end TPE
namespace TP
open PySem PySem.Spec PyProof.Rows L2
structure OexB (K : PySem.W.Frag) (C : Addr) : Prop where
  cls : ∃ xb nm q N bs bm sn sub ab col dd k0 k1 k2 k3 k5, K.lookup C = some (excClassObj nm q C N bs bm true sn sub ab col dd k0 k1 k2 k3 k5 (TPE.XB.nw xb)) ∧ TPE.refsXB xb bm = true
  sa : PySem.W.findIn K (.ref C) "__setattr__" = some (some (.builtin "object.__setattr__"))
  exC : PySem.W.subIn K (.ref C) (.type "BaseException") = some true
  tyC : PySem.W.typeIn K (.ref C) = some (.type "type")
  kC : PySem.W.keepIn K (.ref C) = true
section
variable {X : Cx} {pins : List (Addr × Obj)} {σ : L2.St} {H : Hp} {s : Shared} {a C dx : Addr} {f : Str} {y : V} {u : Value} {fs : List (Str × V)} {Q : Unit → Shared → Prop} {E : Value → Shared → Prop} {A : Around}
end
def tOstB (K : PySem.W.Frag) (f : Str) (to te : TE) : TS := fun D σ H => te σ H fun y H1 => to σ H1 fun x H2 => ∃ a C : Addr, x = .ref a ∧ OexB K C ∧ PySem.W.findIn K (.ref C) f = some none ∧
  (H2 a = some (exo a C none) ∧ ∀ dx, H2 dx = none → dx ≠ a → D.nx σ (upd (upd H2 dx (exd dx [(f, y)])) a (exo a C (some dx))))
section
variable {X : Cx} {o e : Expr} {es : List Expr} {to te : TE} {ta : TA} {f : Str} {p p' p1 p2 pos : Pos}
end
/-! ### what the written part says of such a class -/
def oexS (K : PySem.W.Frag) (C : Addr) : Bool := match K.lookup C with
  | some ⟨.type "type", _, .cls cd, sl⟩ => (match cd.mro, sl.toList with
    | .ref C' :: bm, [_, _, _, _, some (.builtin n), _] => C' == C && ((n == "ValueError.__new__" && TPE.refsXB .ve bm || (n == "LookupError.__new__" && TPE.refsXB .le bm || n == "ArithmeticError.__new__" && TPE.refsXB .ae bm)) && (!cd.hasDel && cd.hasDict))
    | _, _ => false)
  | _ => false
/-- an own error class C, its __init__ keeping one value as f -/
structure ExcK (K : PySem.W.Frag) (mg : Str → Option Value) (C f : Str) : Prop where
  glo : mg C = some (.ref (He.ga K C))
  oex : OexB K (He.ga K C)
  na : PySem.W.findIn K (.ref (He.ga K C)) f = some none
  ini : PySem.W.findIn K (.ref (He.ga K C)) "__init__" = some (some (.ref (He.ma K (He.ga K C) "__init__")))
  fin : PySem.W.typeIn K (.ref (He.ma K (He.ga K C) "__init__")) = some (.type "function")
  ec : ExcC K (He.ga K C)
def exkB (K : PySem.W.Frag) (C f : Str) : Bool :=
  (He.Fa.glo C).ok K && (oexS K (He.ga K C) && (He.eqO (PySem.W.findIn K (.ref (He.ga K C)) "__setattr__") (some (some (.builtin "object.__setattr__"))) && (decide (PySem.W.subIn K (.ref (He.ga K C)) (.type "BaseException") = some true) && (decide (PySem.W.typeIn K (.ref (He.ga K C)) = some (.type "type")) &&
    (PySem.W.keepIn K (.ref (He.ga K C)) && (He.eqO (PySem.W.findIn K (.ref (He.ga K C)) f) (some none) && (He.eqO (PySem.W.findIn K (.ref (He.ga K C)) "__init__") (some (some (.ref (He.ma K (He.ga K C) "__init__")))) &&
    (decide (PySem.W.typeIn K (.ref (He.ma K (He.ga K C) "__init__")) = some (.type "function")) && (He.eqO (PySem.W.findIn K (.ref (He.ga K C)) "__getattribute__") (some (some (.builtin "BaseException.__getattribute__"))) &&
    (He.eqO (PySem.W.findIn K (.ref (He.ga K C)) "__getattr__") (some none) && (PySem.W.hasDictIn K (He.ga K C) && (He.eqO (PySem.W.findIn K (.ref (He.ga K C)) "__class__") (some (some (.builtin "object.__class__"))) &&
    (He.eqO (PySem.W.specialIn K (.builtin "object.__class__") "__get__") (some (some (.builtin "getset_descriptor.__get__"))) && (decide (PySem.W.takesIn K (.builtin "object.__class__") = some true) && decide (PySem.W.mroIn K (He.ga K C) (.type "object") = some true)))))))))))))))
/-! ### C(e) raised -/
def sp_ini (K : PySem.W.Frag) (C f : Str) : Sp := fun vs H Q _ => ∃ (a : Addr) (y : V), vs = [.ref a, y] ∧ H a = some (exo a (He.ga K C) none) ∧ ∀ dx, H dx = none → dx ≠ a → Q .non (upd (upd H dx (exd dx [(f, y)])) a (exo a (He.ga K C) (some dx)))
def RaiC (K : PySem.W.Frag) (C f : Str) (vs : List V) (H1 : Hp) (Q : XK) : Prop := vs.length ≤ 1000 ∧ ∀ a, H1 a = none → sp_ini K C f (.ref a :: (vs ++ [])) (upd H1 a (exo a (He.ga K C) none))
  (fun v H2 => v = .non ∧ ∃ (d : Addr) (fs : List (Str × V)), H2 a = some (exo a (He.ga K C) (some d)) ∧ H2 d = some (exd d fs) ∧ H1 d = none ∧ Q (.ref (He.ga K C)) (some d) (upd (del H2 a) d (.xd fs))) (fun _ _ _ => False)
/-- the class C can be made: its __init__ keeps its promise -/
structure HasX (P : Program) (w : World) (K : PySem.W.Frag) (mg : Str → Option Value) (base : Heap) (C f : Str) : Prop where
  k : ExcK K mg C f
  ex : ∃ (fd : FuncData) (ps : List Str), FnOk P w K mg base CX0 2 (He.ma K (He.ga K C) "__init__") fd ps (sp_ini K C f) ∧ L2.Binds K fd ps []
/-- raise C(e), out of the def -/
def tRai (K : PySem.W.Frag) (C f : Str) (W : WX) (te : TE) : TS := fun _ σ H => te σ H fun y H1 => RaiC K C f [y] H1 fun cls d H' => W cls d σ H'
/-! ### defs that may raise -/
abbrev CXe (P : Program) (w : World) : CXT := L2.CX P w
end TP

namespace TP
open PySem PySem.Spec PyProof.Rows L2 LamX
/-! ### the def that calls what it got and tells what was raised -/
/-- an own error: its class, its field, its word -/
abbrev ExE := Str × Str × Str
def exTab : List ExE := [("InvalidCapacity", "capacity", "capacity"), ("InvalidName", "name", "name"), ("InvalidTimes", "times", "times"), ("InvalidCounts", "index", "counts"), ("InvalidSummary", "index", "summary"), ("InvalidOrder", "index", "order"), ("InvalidPlan", "index", "plan"), ("InvalidText", "text", "text"),
  ("InvalidSize", "size", "size"), ("InvalidNumber", "number", "number"), ("InvalidSlots", "slots", "slots"), ("InvalidIndex", "index", "index"), ("InvalidAction", "index", "action"), ("InvalidLine", "line", "line"), ("NotASummary", "value", "notsummary"),
  ("CapacitiesDiffer", "capacity", "differ"), ("TooManyNames", "found", "names"), ("TooManyActions", "found", "actions")]
def HeldS (K : PySem.W.Frag) (p : Addr × Obj) (H : Hp) (e : ExE) (y : V) (dd : Addr) : Prop := Zc (.ref (He.ga K e.1)) (some dd) p.2 ∧ (∃ vs, p.2.data = .fields vs) ∧ H dd = some (.xd [(e.2.1, y)])
def spKind (K : PySem.W.Frag) : Addr × Obj → Sp := fun p vs H Q _ => ∃ (e : ExE) (y : V) (dd : Addr), vs = [.ref p.1] ∧ e ∈ exTab ∧ HeldS K p H e y dd ∧ ∀ H', Same H H' → Q (.str e.2.2) H'
def spFields (K : PySem.W.Frag) : Addr × Obj → Sp := fun p vs H Q _ => ∃ (e : ExE) (y : V) (dd : Addr), vs = [.ref p.1] ∧ e ∈ exTab ∧ HeldS K p H e y dd ∧ ∀ l H', Same H H' → H' l = some (.lst [y]) → Q (.ref l) H'
def CaughtC (K : PySem.W.Frag) (cls : Value) (d : Option Addr) (H : Hp) (Q : VK) : Prop := ∃ (e : ExE) (y : V) (dd : Addr), e ∈ exTab ∧ cls = .ref (He.ga K e.1) ∧ d = some dd ∧ H dd = some (.xd [(e.2.1, y)]) ∧ ∀ l H', Same H H' → H' l = some (.lst [.str e.2.2, y]) → Q (.ref l) H'
def LstC (xs : List V) (H1 : Hp) (Q : VK) : Prop := xs.length ≤ sizeLine ∧ ∀ p, H1 p = none → Q (.ref p) (upd H1 p (.lst xs))
def TCaught (K : PySem.W.Frag) : (XK → Hp → VK → Prop) → Hp → VK → Prop := fun tl H Q => tl (fun cls d H' => CaughtC K cls d H' Q) H fun v H1 => LstC [.str "returned", v] H1 Q
def tKF (K : PySem.W.Frag) (p : Addr × Obj) : TS := tRet (tOp rCat (tLst (tCons (tCall (spKind K p) [] E0 (tCons (tVar 1) tNil)) tNil)) (tCall (spFields K p) [] E0 (tCons (tVar 1) tNil)))
end TP

namespace TP
open PySem PySem.Spec PyProof.Rows L2
/-! ### all own error classes: what the written part says -/
def exLeaf : List Str := ["InvalidCapacity", "InvalidName", "InvalidTimes", "InvalidCounts", "InvalidSummary", "InvalidOrder", "InvalidPlan", "InvalidText", "InvalidSize", "InvalidNumber", "InvalidSlots", "InvalidIndex", "InvalidAction", "InvalidLine", "NotASummary", "CapacitiesDiffer", "Busy", "NothingToUndo", "TooManyNames", "TooManyActions"]
def exBase : List Str := ["TallyError", "StateError", "SizeError"]
def exFlds : List Str := ["capacity", "name", "times", "index", "text", "size", "number", "slots", "line", "value", "found"]
def exSup (C : Str) : Str := if C = "CapacitiesDiffer" then "StateError" else if C = "TooManyNames" then "SizeError" else if C = "TooManyActions" then "SizeError" else "TallyError"
def exIs (e : ExE) (C : Str) : Bool := decide (C = e.1) || decide (C = exSup e.1)
/-- an own error that is held: what is asked of its class -/
def exhB (K : PySem.W.Frag) (C : Str) : Bool :=
  decide (PySem.W.subIn K (.ref (He.ga K C)) (.type "BaseException") = some true) && (He.eqO (PySem.W.findIn K (.ref (He.ga K C)) "__getattribute__") (some (some (.builtin "BaseException.__getattribute__"))) &&
    (He.eqO (PySem.W.findIn K (.ref (He.ga K C)) "__getattr__") (some none) && (PySem.W.hasDictIn K (He.ga K C) && (He.eqO (PySem.W.findIn K (.ref (He.ga K C)) "__class__") (some (some (.builtin "object.__class__"))) &&
    (He.eqO (PySem.W.specialIn K (.builtin "object.__class__") "__get__") (some (some (.builtin "getset_descriptor.__get__"))) && (decide (PySem.W.takesIn K (.builtin "object.__class__") = some true) && decide (PySem.W.mroIn K (He.ga K C) (.type "object") = some true)))))))
structure ExF (K : PySem.W.Frag) (mg : Str → Option Value) : Prop where
  ec : ∀ e ∈ exTab, ExcC K (He.ga K e.1)
  glo : ∀ C ∈ exLeaf ++ exBase, mg C = some (.ref (He.ga K C))
  kit : ∀ e ∈ exTab, ∀ C ∈ exLeaf ++ exBase, PySem.W.kitOne K (.ref (He.ga K e.1)) (.ref (He.ga K C)) = some (exIs e C)
  kb : ∀ e ∈ exTab, PySem.W.kitOne K (.ref (He.ga K e.1)) (.type "ValueError") = some (exIs e "TallyError") ∧ PySem.W.kitOne K (.ref (He.ga K e.1)) (.type "LookupError") = some (exIs e "StateError") ∧ PySem.W.kitOne K (.ref (He.ga K e.1)) (.type "ArithmeticError") = some (exIs e "SizeError")
  na : ∀ e ∈ exTab, ∀ f ∈ exFlds, PySem.W.findIn K (.ref (He.ga K e.1)) f = some none
  exm : ∀ e ∈ exTab, PySem.W.exmAny K (.ref (He.ga K e.1)) [.ref (He.ga K "TallyError"), .ref (He.ga K "StateError"), .ref (He.ga K "SizeError")] = some true
  free : mg "ValueError" = none ∧ mg "LookupError" = none ∧ mg "ArithmeticError" = none
def exfB (K : PySem.W.Frag) : Bool :=
  exTab.all (fun e => exhB K e.1) && ((exLeaf ++ exBase).all (fun C => (He.Fa.glo C).ok K) && (exTab.all (fun e => (exLeaf ++ exBase).all fun C => decide (PySem.W.kitOne K (.ref (He.ga K e.1)) (.ref (He.ga K C)) = some (exIs e C))) &&
    (exTab.all (fun e => decide (PySem.W.kitOne K (.ref (He.ga K e.1)) (.type "ValueError") = some (exIs e "TallyError")) && (decide (PySem.W.kitOne K (.ref (He.ga K e.1)) (.type "LookupError") = some (exIs e "StateError")) && decide (PySem.W.kitOne K (.ref (He.ga K e.1)) (.type "ArithmeticError") = some (exIs e "SizeError")))) &&
    (exTab.all (fun e => exFlds.all fun f => He.eqO (PySem.W.findIn K (.ref (He.ga K e.1)) f) (some none)) && (exTab.all (fun e => decide (PySem.W.exmAny K (.ref (He.ga K e.1)) [.ref (He.ga K "TallyError"), .ref (He.ga K "StateError"), .ref (He.ga K "SizeError")] = some true)) &&
    ((He.Fa.free "ValueError").ok K && ((He.Fa.free "LookupError").ok K && (He.Fa.free "ArithmeticError").ok K)))))))
section
variable {K : PySem.W.Frag} {mg : Str → Option Value} {H : Hp} {Q : VK} {p : Addr × Obj} {e : ExE} {y : V} {dd : Addr}
end
/-- the errors whose fields the second def tells -/
def exOth : List Str := ["InvalidName", "InvalidTimes", "InvalidText", "InvalidNumber", "InvalidSlots", "InvalidSize", "InvalidLine"]
def spFieldsO (K : PySem.W.Frag) : Addr × Obj → Sp := fun p vs H Q _ => ∃ (e : ExE) (y : V) (dd : Addr), vs = [.ref p.1] ∧ e ∈ exTab ∧ HeldS K p H e y dd ∧ exOth.contains e.1 = true ∧ ∀ l H', Same H H' → H' l = some (.lst [y]) → Q (.ref l) H'
end TP



namespace TP
open PySem PySem.Spec PyProof.Rows L2 LamX
def top (i : Nat) : Stmt := PySem.Challenge.pw_tallyplans_k83_whole_a_collector_is_its.main.body.getD i (.Pass ⟨0, 0, 0, 0⟩)
abbrev s_is_whole : Stmt := top 24
abbrev s_is_from : Stmt := top 25
abbrev s_is_between : Stmt := top 26
abbrev s_is_capacity : Stmt := top 27
abbrev s_is_name : Stmt := top 28
abbrev s_is_run : Stmt := top 29
abbrev s_first_invalid : Stmt := top 31
abbrev s_check_capacity : Stmt := top 32
abbrev s_check_name : Stmt := top 33
abbrev s_table_of : Stmt := top 34
abbrev s_counts_of_table : Stmt := top 35
abbrev s_counts_text : Stmt := top 40
abbrev s_Summary___init__ : Stmt := inClass (top 42) 0
abbrev s_Summary___eq__ : Stmt := inClass (top 42) 1
abbrev s_Summary___str__ : Stmt := inClass (top 42) 3
abbrev s_Summary___repr__ : Stmt := inClass (top 42) 4
abbrev s_Summary_arrive : Stmt := inClass (top 42) 8
abbrev s_Summary_merged : Stmt := inClass (top 42) 11
abbrev s_lowered : Stmt := top 43
abbrev s_arrived : Stmt := top 44
abbrev s_is_summary : Stmt := top 46
abbrev s_check_summary : Stmt := top 47
abbrev s_is_action : Stmt := top 50
abbrev s_check_actions : Stmt := top 51
abbrev s_check_index : Stmt := top 52
abbrev s_check_run : Stmt := top 53
abbrev s_check_same : Stmt := top 54
abbrev s_more_rows : Stmt := top 55
abbrev s_state_after : Stmt := top 56
abbrev s_current_of : Stmt := top 57
abbrev s_Collector___init__ : Stmt := inClass (top 58) 0
abbrev s_Collector___eq__ : Stmt := inClass (top 58) 1
abbrev s_Collector___len__ : Stmt := inClass (top 58) 2
abbrev s_Collector___str__ : Stmt := inClass (top 58) 3
abbrev s_Collector___repr__ : Stmt := inClass (top 58) 4
abbrev s_Collector_start : Stmt := inClass (top 58) 5
abbrev s_Collector_entries : Stmt := inClass (top 58) 6
abbrev s_Collector_current : Stmt := inClass (top 58) 7
abbrev s_Collector_history : Stmt := inClass (top 58) 8
abbrev s_Collector_arrived : Stmt := inClass (top 58) 9
abbrev s_Collector_change : Stmt := inClass (top 58) 10
abbrev s_Collector_do : Stmt := inClass (top 58) 11
abbrev s_Collector_arrive : Stmt := inClass (top 58) 12
abbrev s_Collector_merge : Stmt := inClass (top 58) 13
abbrev s_Collector_restart : Stmt := inClass (top 58) 16
abbrev s_Collector_do_all : Stmt := inClass (top 58) 17
abbrev s_Collector_preview : Stmt := inClass (top 58) 18
abbrev s_Collector_undo : Stmt := inClass (top 58) 19
abbrev s__law_cell : Stmt := top 60
abbrev s__law_pool : Stmt := top 61
abbrev s__law_draw : Stmt := top 62
abbrev s__law_words : Stmt := top 63
abbrev s__law_often : Stmt := top 64
abbrev s__law_bag : Stmt := top 65
abbrev s__law_run : Stmt := top 66
abbrev s__law_flat : Stmt := top 67
abbrev s__law_held : Stmt := top 68
abbrev s__law_merged : Stmt := top 69
abbrev s__law_text : Stmt := top 70
abbrev s__law_now : Stmt := top 71
abbrev s__law_plain : Stmt := top 72
abbrev s__law_done : Stmt := top 73
abbrev s__law_deed : Stmt := top 74
abbrev s__law_deeds : Stmt := top 75
abbrev s__law_rows_right : Stmt := top 76
abbrev s__law_told_right : Stmt := top 77
abbrev s__law_drawn : Stmt := top 78
abbrev s__law_in_groups : Stmt := top 79
abbrev s__law_all_told : Stmt := top 80
abbrev s__law_all_same : Stmt := top 81
abbrev s__law_right : Stmt := top 82
abbrev s_law : Stmt := top 83
def d_is_whole : He.DefD := ⟨("is_whole", none), "is_whole", "is_whole", defArgs s_is_whole, defBody s_is_whole, defScope s_is_whole, [], []⟩
def d_is_from : He.DefD := ⟨("is_from", none), "is_from", "is_from", defArgs s_is_from, defBody s_is_from, defScope s_is_from, [], []⟩
def d_is_between : He.DefD := ⟨("is_between", none), "is_between", "is_between", defArgs s_is_between, defBody s_is_between, defScope s_is_between, [], []⟩
def d_is_capacity : He.DefD := ⟨("is_capacity", none), "is_capacity", "is_capacity", defArgs s_is_capacity, defBody s_is_capacity, defScope s_is_capacity, [], []⟩
def d_is_name : He.DefD := ⟨("is_name", none), "is_name", "is_name", defArgs s_is_name, defBody s_is_name, defScope s_is_name, [], []⟩
def d_is_run : He.DefD := ⟨("is_run", none), "is_run", "is_run", defArgs s_is_run, defBody s_is_run, defScope s_is_run, [], []⟩
def d_first_invalid : He.DefD := ⟨("first_invalid", none), "first_invalid", "first_invalid", defArgs s_first_invalid, defBody s_first_invalid, defScope s_first_invalid, [], []⟩
def d_check_capacity : He.DefD := ⟨("check_capacity", none), "check_capacity", "check_capacity", defArgs s_check_capacity, defBody s_check_capacity, defScope s_check_capacity, [], []⟩
def d_check_name : He.DefD := ⟨("check_name", none), "check_name", "check_name", defArgs s_check_name, defBody s_check_name, defScope s_check_name, [], []⟩
def d_table_of : He.DefD := ⟨("table_of", none), "table_of", "table_of", defArgs s_table_of, defBody s_table_of, defScope s_table_of, [], []⟩
def d_counts_of_table : He.DefD := ⟨("counts_of_table", none), "counts_of_table", "counts_of_table", defArgs s_counts_of_table, defBody s_counts_of_table, defScope s_counts_of_table, [], []⟩
def d_counts_text : He.DefD := ⟨("counts_text", none), "counts_text", "counts_text", defArgs s_counts_text, defBody s_counts_text, defScope s_counts_text, [], []⟩
def d_Summary___init__ : He.DefD := ⟨("Summary", some "__init__"), "__init__", "Summary.__init__", defArgs s_Summary___init__, defBody s_Summary___init__, defScope s_Summary___init__, [.adr (dflA "Summary" "__init__" 0)], []⟩
def d_Summary___eq__ : He.DefD := ⟨("Summary", some "__eq__"), "__eq__", "Summary.__eq__", defArgs s_Summary___eq__, defBody s_Summary___eq__, defScope s_Summary___eq__, [], []⟩
def d_Summary___str__ : He.DefD := ⟨("Summary", some "__str__"), "__str__", "Summary.__str__", defArgs s_Summary___str__, defBody s_Summary___str__, defScope s_Summary___str__, [], []⟩
def d_Summary___repr__ : He.DefD := ⟨("Summary", some "__repr__"), "__repr__", "Summary.__repr__", defArgs s_Summary___repr__, defBody s_Summary___repr__, defScope s_Summary___repr__, [], []⟩
def d_Summary_arrive : He.DefD := ⟨("Summary", some "arrive"), "arrive", "Summary.arrive", defArgs s_Summary_arrive, defBody s_Summary_arrive, defScope s_Summary_arrive, [.int 1], []⟩
def d_Summary_merged : He.DefD := ⟨("Summary", some "merged"), "merged", "Summary.merged", defArgs s_Summary_merged, defBody s_Summary_merged, defScope s_Summary_merged, [], []⟩
def d_lowered : He.DefD := ⟨("lowered", none), "lowered", "lowered", defArgs s_lowered, defBody s_lowered, defScope s_lowered, [], []⟩
def d_arrived : He.DefD := ⟨("arrived", none), "arrived", "arrived", defArgs s_arrived, defBody s_arrived, defScope s_arrived, [], []⟩
def d_is_summary : He.DefD := ⟨("is_summary", none), "is_summary", "is_summary", defArgs s_is_summary, defBody s_is_summary, defScope s_is_summary, [], []⟩
def d_check_summary : He.DefD := ⟨("check_summary", none), "check_summary", "check_summary", defArgs s_check_summary, defBody s_check_summary, defScope s_check_summary, [], []⟩
def d_is_action : He.DefD := ⟨("is_action", none), "is_action", "is_action", defArgs s_is_action, defBody s_is_action, defScope s_is_action, [], []⟩
def d_check_actions : He.DefD := ⟨("check_actions", none), "check_actions", "check_actions", defArgs s_check_actions, defBody s_check_actions, defScope s_check_actions, [], []⟩
def d_check_index : He.DefD := ⟨("check_index", none), "check_index", "check_index", defArgs s_check_index, defBody s_check_index, defScope s_check_index, [], []⟩
def d_check_run : He.DefD := ⟨("check_run", none), "check_run", "check_run", defArgs s_check_run, defBody s_check_run, defScope s_check_run, [], []⟩
def d_check_same : He.DefD := ⟨("check_same", none), "check_same", "check_same", defArgs s_check_same, defBody s_check_same, defScope s_check_same, [], []⟩
def d_more_rows : He.DefD := ⟨("more_rows", none), "more_rows", "more_rows", defArgs s_more_rows, defBody s_more_rows, defScope s_more_rows, [], []⟩
def d_state_after : He.DefD := ⟨("state_after", none), "state_after", "state_after", defArgs s_state_after, defBody s_state_after, defScope s_state_after, [], []⟩
def d_current_of : He.DefD := ⟨("current_of", none), "current_of", "current_of", defArgs s_current_of, defBody s_current_of, defScope s_current_of, [], []⟩
def d_Collector___init__ : He.DefD := ⟨("Collector", some "__init__"), "__init__", "Collector.__init__", defArgs s_Collector___init__, defBody s_Collector___init__, defScope s_Collector___init__, [], []⟩
def d_Collector___eq__ : He.DefD := ⟨("Collector", some "__eq__"), "__eq__", "Collector.__eq__", defArgs s_Collector___eq__, defBody s_Collector___eq__, defScope s_Collector___eq__, [], []⟩
def d_Collector___len__ : He.DefD := ⟨("Collector", some "__len__"), "__len__", "Collector.__len__", defArgs s_Collector___len__, defBody s_Collector___len__, defScope s_Collector___len__, [], []⟩
def d_Collector___str__ : He.DefD := ⟨("Collector", some "__str__"), "__str__", "Collector.__str__", defArgs s_Collector___str__, defBody s_Collector___str__, defScope s_Collector___str__, [], []⟩
def d_Collector___repr__ : He.DefD := ⟨("Collector", some "__repr__"), "__repr__", "Collector.__repr__", defArgs s_Collector___repr__, defBody s_Collector___repr__, defScope s_Collector___repr__, [], []⟩
def d_Collector_start : He.DefD := ⟨("Collector", some "start"), "start", "Collector.start", defArgs s_Collector_start, defBody s_Collector_start, defScope s_Collector_start, [], []⟩
def d_Collector_entries : He.DefD := ⟨("Collector", some "entries"), "entries", "Collector.entries", defArgs s_Collector_entries, defBody s_Collector_entries, defScope s_Collector_entries, [], []⟩
def d_Collector_current : He.DefD := ⟨("Collector", some "current"), "current", "Collector.current", defArgs s_Collector_current, defBody s_Collector_current, defScope s_Collector_current, [], []⟩
def d_Collector_history : He.DefD := ⟨("Collector", some "history"), "history", "Collector.history", defArgs s_Collector_history, defBody s_Collector_history, defScope s_Collector_history, [], []⟩
def d_Collector_arrived : He.DefD := ⟨("Collector", some "arrived"), "arrived", "Collector.arrived", defArgs s_Collector_arrived, defBody s_Collector_arrived, defScope s_Collector_arrived, [], []⟩
def d_Collector_change : He.DefD := ⟨("Collector", some "change"), "change", "Collector.change", defArgs s_Collector_change, defBody s_Collector_change, defScope s_Collector_change, [], []⟩
def d_Collector_do : He.DefD := ⟨("Collector", some "do"), "do", "Collector.do", defArgs s_Collector_do, defBody s_Collector_do, defScope s_Collector_do, [], []⟩
def d_Collector_arrive : He.DefD := ⟨("Collector", some "arrive"), "arrive", "Collector.arrive", defArgs s_Collector_arrive, defBody s_Collector_arrive, defScope s_Collector_arrive, [.int 1], []⟩
def d_Collector_merge : He.DefD := ⟨("Collector", some "merge"), "merge", "Collector.merge", defArgs s_Collector_merge, defBody s_Collector_merge, defScope s_Collector_merge, [], []⟩
def d_Collector_restart : He.DefD := ⟨("Collector", some "restart"), "restart", "Collector.restart", defArgs s_Collector_restart, defBody s_Collector_restart, defScope s_Collector_restart, [], []⟩
def d_Collector_do_all : He.DefD := ⟨("Collector", some "do_all"), "do_all", "Collector.do_all", defArgs s_Collector_do_all, defBody s_Collector_do_all, defScope s_Collector_do_all, [], [("observer", .non)]⟩
def d_Collector_preview : He.DefD := ⟨("Collector", some "preview"), "preview", "Collector.preview", defArgs s_Collector_preview, defBody s_Collector_preview, defScope s_Collector_preview, [], []⟩
def d_Collector_undo : He.DefD := ⟨("Collector", some "undo"), "undo", "Collector.undo", defArgs s_Collector_undo, defBody s_Collector_undo, defScope s_Collector_undo, [], []⟩
def d__law_cell : He.DefD := ⟨("_law_cell", none), "_law_cell", "_law_cell", defArgs s__law_cell, defBody s__law_cell, defScope s__law_cell, [], []⟩
def d__law_pool : He.DefD := ⟨("_law_pool", none), "_law_pool", "_law_pool", defArgs s__law_pool, defBody s__law_pool, defScope s__law_pool, [], []⟩
def d__law_draw : He.DefD := ⟨("_law_draw", none), "_law_draw", "_law_draw", defArgs s__law_draw, defBody s__law_draw, defScope s__law_draw, [], []⟩
def d__law_words : He.DefD := ⟨("_law_words", none), "_law_words", "_law_words", defArgs s__law_words, defBody s__law_words, defScope s__law_words, [], []⟩
def d__law_often : He.DefD := ⟨("_law_often", none), "_law_often", "_law_often", defArgs s__law_often, defBody s__law_often, defScope s__law_often, [], []⟩
def d__law_bag : He.DefD := ⟨("_law_bag", none), "_law_bag", "_law_bag", defArgs s__law_bag, defBody s__law_bag, defScope s__law_bag, [], []⟩
def d__law_run : He.DefD := ⟨("_law_run", none), "_law_run", "_law_run", defArgs s__law_run, defBody s__law_run, defScope s__law_run, [], []⟩
def d__law_flat : He.DefD := ⟨("_law_flat", none), "_law_flat", "_law_flat", defArgs s__law_flat, defBody s__law_flat, defScope s__law_flat, [], []⟩
def d__law_held : He.DefD := ⟨("_law_held", none), "_law_held", "_law_held", defArgs s__law_held, defBody s__law_held, defScope s__law_held, [], []⟩
def d__law_merged : He.DefD := ⟨("_law_merged", none), "_law_merged", "_law_merged", defArgs s__law_merged, defBody s__law_merged, defScope s__law_merged, [], []⟩
def d__law_text : He.DefD := ⟨("_law_text", none), "_law_text", "_law_text", defArgs s__law_text, defBody s__law_text, defScope s__law_text, [], []⟩
def d__law_now : He.DefD := ⟨("_law_now", none), "_law_now", "_law_now", defArgs s__law_now, defBody s__law_now, defScope s__law_now, [], []⟩
def d__law_plain : He.DefD := ⟨("_law_plain", none), "_law_plain", "_law_plain", defArgs s__law_plain, defBody s__law_plain, defScope s__law_plain, [], []⟩
def d__law_done : He.DefD := ⟨("_law_done", none), "_law_done", "_law_done", defArgs s__law_done, defBody s__law_done, defScope s__law_done, [], []⟩
def d__law_deed : He.DefD := ⟨("_law_deed", none), "_law_deed", "_law_deed", defArgs s__law_deed, defBody s__law_deed, defScope s__law_deed, [], []⟩
def d__law_deeds : He.DefD := ⟨("_law_deeds", none), "_law_deeds", "_law_deeds", defArgs s__law_deeds, defBody s__law_deeds, defScope s__law_deeds, [], []⟩
def d__law_rows_right : He.DefD := ⟨("_law_rows_right", none), "_law_rows_right", "_law_rows_right", defArgs s__law_rows_right, defBody s__law_rows_right, defScope s__law_rows_right, [], []⟩
def d__law_told_right : He.DefD := ⟨("_law_told_right", none), "_law_told_right", "_law_told_right", defArgs s__law_told_right, defBody s__law_told_right, defScope s__law_told_right, [], []⟩
def d__law_drawn : He.DefD := ⟨("_law_drawn", none), "_law_drawn", "_law_drawn", defArgs s__law_drawn, defBody s__law_drawn, defScope s__law_drawn, [], []⟩
def d__law_in_groups : He.DefD := ⟨("_law_in_groups", none), "_law_in_groups", "_law_in_groups", defArgs s__law_in_groups, defBody s__law_in_groups, defScope s__law_in_groups, [], []⟩
def d__law_all_told : He.DefD := ⟨("_law_all_told", none), "_law_all_told", "_law_all_told", defArgs s__law_all_told, defBody s__law_all_told, defScope s__law_all_told, [], []⟩
def d__law_all_same : He.DefD := ⟨("_law_all_same", none), "_law_all_same", "_law_all_same", defArgs s__law_all_same, defBody s__law_all_same, defScope s__law_all_same, [], []⟩
def d__law_right : He.DefD := ⟨("_law_right", none), "_law_right", "_law_right", defArgs s__law_right, defBody s__law_right, defScope s__law_right, [], []⟩
def d_law : He.DefD := ⟨("law", none), "law", "law", defArgs s_law, defBody s_law, defScope s_law, [], []⟩
def fn : List He.DefD := [d_is_whole, d_is_from, d_is_between, d_is_capacity, d_is_name, d_is_run, d_first_invalid, d_check_capacity, d_check_name, d_table_of, d_counts_of_table, d_counts_text, d_Summary___init__, d_Summary___eq__, d_Summary___str__, d_Summary___repr__, d_Summary_arrive, d_Summary_merged, d_lowered, d_arrived, d_is_summary, d_check_summary, d_is_action, d_check_actions, d_check_index, d_check_run, d_check_same, d_more_rows, d_state_after, d_current_of, d_Collector___init__, d_Collector___eq__, d_Collector___len__, d_Collector___str__, d_Collector___repr__, d_Collector_start, d_Collector_entries, d_Collector_current, d_Collector_history, d_Collector_arrived, d_Collector_change, d_Collector_do, d_Collector_arrive, d_Collector_merge, d_Collector_restart, d_Collector_do_all, d_Collector_preview, d_Collector_undo, d__law_cell, d__law_pool, d__law_draw, d__law_words, d__law_often, d__law_bag, d__law_run, d__law_flat, d__law_held, d__law_merged, d__law_text, d__law_now, d__law_plain, d__law_done, d__law_deed, d__law_deeds, d__law_rows_right, d__law_told_right, d__law_drawn, d__law_in_groups, d__law_all_told, d__law_all_same, d__law_right, d_law]
def fa : List He.Fa := [.glo "is_whole", .glo "is_from", .glo "is_between", .glo "is_capacity", .glo "is_name", .glo "is_run", .glo "first_invalid", .glo "check_capacity", .glo "check_name", .glo "table_of", .glo "counts_of_table", .glo "counts_text", .meth "Summary" "__init__", .meth "Summary" "__eq__", .meth "Summary" "__str__", .meth "Summary" "__repr__", .meth "Summary" "arrive", .meth "Summary" "merged", .glo "lowered", .glo "arrived", .glo "is_summary", .glo "check_summary", .glo "is_action", .glo "check_actions", .glo "check_index", .glo "check_run", .glo "check_same", .glo "more_rows", .glo "state_after", .glo "current_of", .meth "Collector" "__init__", .meth "Collector" "__eq__", .meth "Collector" "__len__", .meth "Collector" "__str__", .meth "Collector" "__repr__", .meth "Collector" "start", .meth "Collector" "entries", .meth "Collector" "current", .meth "Collector" "history", .meth "Collector" "arrived", .meth "Collector" "change", .meth "Collector" "do", .meth "Collector" "arrive", .meth "Collector" "merge", .meth "Collector" "restart", .meth "Collector" "do_all", .meth "Collector" "preview", .meth "Collector" "undo", .glo "_law_cell", .glo "_law_pool", .glo "_law_draw", .glo "_law_words", .glo "_law_often", .glo "_law_bag", .glo "_law_run", .glo "_law_flat", .glo "_law_held", .glo "_law_merged", .glo "_law_text", .glo "_law_now", .glo "_law_plain", .glo "_law_done", .glo "_law_deed", .glo "_law_deeds", .glo "_law_rows_right", .glo "_law_told_right", .glo "_law_drawn", .glo "_law_in_groups", .glo "_law_all_told", .glo "_law_all_same", .glo "_law_right", .glo "law", .free "len", .free "isinstance", .free "range", .free "enumerate", .free "zip", .free "reversed", .free "int", .free "str", .free "bool", .free "tuple", .free "list", .free "dict", .free "bytes", .free "set", .free "sum", .free "all", .free "any", .free "abs", .free "min", .free "max", .free "sorted", .free "repr", .free "divmod", .free "type", .free "map", .free "iter", .free "next", .int "MAX_CAPACITY" 8, .str "LETTERS" "abcdefghijklmnopqrstuvwxyz", .int "MAX_ACTIONS" 100, .int "MAX_NAMES" 12, .glo "ACTION_SIZES"]
def gts : List He.Tab := [(fun K => He.ga K "ACTION_SIZES", ["arrive", "merge", "insert", "remove", "start"])]
abbrev R : PySem.W.OpenRow := PySem.W.OpenLaw.row PySem.Challenge.rw_tallyplans_k83_whole_a_collector_is_its
def ex : List (PySem.W.Frag → Bool) := [fun K => clsB K "Summary" ["capacity", "counts", "__bool__"], fun K => etupB K (dflA "Summary" "__init__" 0 K), fun K => clsB K "Collector" ["capacity", "begin", "rows", "past", "busy", "attempts", "__bool__"], fun K => decide (PySem.W.kitOne K (.ref (He.ga K "Collector")) (.ref (He.ga K "Summary")) = some false), fun K => decide (PySem.W.kitOne K (.ref (He.ga K "Summary")) (.ref (He.ga K "Collector")) = some false), fun K => He.valsB K (He.ga K "ACTION_SIZES") [("arrive", .int 3), ("merge", .int 2), ("insert", .int 4), ("remove", .int 2), ("start", .int 2)]]
abbrev hk : PySem.W.Hook := hookET 5 fa fn gts ex
def ob (s : PySem.W.SharedT) : He.AlT × Bool := obsETG 5 fa fn gts ex (HandSHeadRun.getT s)
theorem ob_eq (s : PySem.W.SharedT) : ob s = hk.obs s.abs := obsETG_eq (HandSHeadRun.getT_eq s)
def loose0 : List Str := ["_wall", "TallyError", "InvalidCapacity", "InvalidName", "InvalidTimes", "InvalidSummary", "InvalidOrder", "InvalidIndex", "InvalidAction", "NotASummary", "StateError", "CapacitiesDiffer", "Busy", "NothingToUndo", "SizeError", "TooManyNames", "TooManyActions", "MAX_CAPACITY", "MAX_NAMES", "MAX_RUNS", "MAX_ACTIONS", "LETTERS", "is_whole", "is_from", "is_between", "is_capacity", "is_name", "is_run", "first_invalid", "check_capacity"]
def loose1 : List Str := ["check_name", "table_of", "counts_of_table", "first_no_order", "check_order", "counts_text", "Summary", "lowered", "arrived", "played", "is_summary", "check_summary", "ACTION_SIZES", "is_action", "check_actions", "check_index", "check_run", "check_same", "more_rows", "state_after", "current_of", "Collector", "_law_cell", "_law_pool", "_law_draw", "_law_words", "_law_often", "_law_bag", "_law_run", "_law_flat"]
def loose2 : List Str := ["_law_held", "_law_merged", "_law_text", "_law_now", "_law_plain", "_law_done", "_law_deed", "_law_deeds", "_law_rows_right", "_law_told_right", "_law_drawn", "_law_in_groups", "_law_all_told", "_law_all_same", "_law_right"]
def loose : List Str := loose0 ++ loose1 ++ loose2
theorem run_false (w : World) : HandSHeadRun.RunEq R (PySem.W.view R.prog [83]) hk ob 16000 loose (w.withFollow "special-get-raises" false) := by
  intro os
  kernel_rfl
theorem run_true (w : World) : HandSHeadRun.RunEq R (PySem.W.view R.prog [83]) hk ob 16000 loose (w.withFollow "special-get-raises" true) := by
  intro os
  kernel_rfl
theorem run (w : World) : HandSHeadRun.RunEq R (PySem.W.view R.prog [83]) hk ob 16000 loose w := PySem.W.byRow2 "special-get-raises" run_false run_true w
end TP
namespace TP
open PySem PySem.Spec PyProof.Rows L2
section
variable {P : Program} {w : World} {K : PySem.W.Frag} {mg : Str → Option Value} {base : Heap} {CX : CXT} {j k : Nat} {f : Addr} {fd : FuncData} {ps : List Str} {sp sp' : Sp}
theorem FnG.mono (F : FnG P w K mg base CX j f fd ps sp) (h : j ≤ k) : FnG P w K mg base CX k f fd ps sp :=
  ⟨F.len, fun A outer s H args us vs Q E hr hg => F.run A outer s H args us vs Q E (hr.mono h) hg⟩
end
section
variable {P : Program} {w : World} {K : PySem.W.Frag} {mg : Str → Option Value} {base : Heap} {CX : CXT} {k j : Nat} {x : Str} {st : Stmt} {N ps : List Str} {sp sp' : Sp}
end
section
variable {X : Cx} {CX : CXT} {k : Nat} {f : Addr} {fd : FuncData} {ps ks : List Str} {sp : Sp} {E : XK} {x : Str} {st : Stmt} {p pos : Pos} {e : Expr} {es : List Expr} {kws : List Keyword} {t tk : TA}
theorem runG {pins : List (Addr × Obj)} {σ : L2.St} {H : Hp} {s : Shared} {Q : VK} {us : List Value} {args : Args} {vs : List V} (F : FnG X.prog X.w X.K X.mg X.base CX k f fd ps sp) (hr : Room k X.A) (hg : X.A.guards = some []) (hx : Passes CX X E)
    (I : Inv X pins σ H s) (r : Vals vs us) (hb : BindsTo s fd args (ps.zip us)) (h : sp vs H Q E) : wpAny (model X.prog X.w) X.A (call (.ref f) args.pos args.kw) (EP X pins σ Q) X.xe s := by
  refine wpAny_call (codeAny_mono (F.run X.A X.stack s H args us vs Q E hr hg I.env0 hb r h) fun z s' hq => ?_)
  cases z with
  | error e => exact hx pins σ H s e s' I hq
  | ok fl =>
    cases fl with
    | ret u => exact I.after hq
    | next => exact hq.elim
    | brk => exact hq.elim
    | cont => exact hq.elim
theorem FunD.noDef {K : PySem.W.Frag} {q : Str} {params : Arguments} {body : List Stmt} {scope : Scope} {kvs : List (Str × V)} (F : FunD K x q params body scope [] kvs f fd) :
    ∃ (kV doc pm : Value) (an : Option Addr) (cdv ct : Value), fd = PySem.W.fnOf x q params body scope .none kV doc pm an cdv ct := by
  obtain ⟨oc, od, dV, kV, doc, pm, an, cdv, ct, osl, rfl, lk, hcd, hd, _⟩ := F.ex
  rcases hd with ⟨_, rfl⟩ | ⟨q, _⟩
  · exact ⟨kV, doc, pm, an, cdv, ct, rfl⟩
  · exact absurd rfl q
theorem pe_fn (F : Has X.prog X.w X.K X.mg X.base CX k x st ps sp) (hb : PosB x st ps) (hr : Room k X.A) (hg : X.A.guards = some []) (hgl : Gl X x) (hx : Passes CX X E)
    (ha : PA X (e :: es) t) (hdb : (x == ("__debug__" : Str)) = false := by decide) (he : starEach (e :: es) X.env = (false, eval e X.env) :: starEach es X.env := by rfl)
    (hpl : (backTo pos (starEach es X.env)).any (·.1) = false := by rfl) : PE X (.Call (.Name x p) (e :: es) [] pos) (tCall sp [] E t) := by
  obtain ⟨fd, FD, G⟩ := F.ex
  refine ⟨fun pins s σ H Q I h => ?_⟩
  refine wpAny_Call_Name_kw (ld_glob I hgl F.glo ?_ hdb)
  refine PySem.W.callWith_K (h₀ := X.base) I.ok.mod.kin FD.kp (thn (ha.run pos pins s σ H _ I h) fun us s1 ⟨vs, H1, I1, r, q⟩ => ⟨I1.kIn, ?_⟩) he hpl
  have q2 : sp vs H1 Q E := by rw [← List.append_nil vs]; exact q
  obtain ⟨kV, doc, pm, an, cdv, ct, rfl⟩ := FunD.noDef FD
  exact runG (args := ⟨us, []⟩) G hr hg hx I1 r (.of_eq (hb kV doc pm an cdv ct us (by rw [← r.length]; exact G.len _ _ _ _ q2))) q2
end
section
variable {P : Program} {w : World} {K : PySem.W.Frag} {mg mb : Str → Option Value} {k : Nat} {fa a : Addr} {fd : FuncData} {x : Str} {sp : Sp} {s₁ : Shared} {vs : List Value} {ns : List Int}
/-- the law's call from an abstract heap H that holds the script at most -/
theorem law_core (KX : K.In s₁.heap) (hns : s₁.heap.Ns mainGlobals mg) (hb : s₁.heap.Ns builtinsNs mb) (hbb : ∀ x : Str, x ≠ "__name__" → mb x = bootBuiltins x) (hlim : s₁.heap.NoLimit) (hg : s₁.gens = #[])
    (ha : s₁.heap.get? a = some { cls := .type "list", data := .seq vs.toArray }) (hr : Room k callerA)
    (F : ∀ base : Heap, K.In base → base.Ns mainGlobals mg → FnG P w K mg base CX0 k fa fd [x] sp) (hbind : ∀ (s : Shared) (u : Value), BindsTo s fd ⟨[u], []⟩ [(x, u)])
    {H : Hp} (hO : Only H) (hsp : sp [.ref a] H (fun v _ => v = .bl true) fun _ _ _ => False) (hok : HOk P w H s₁.heap) (hA : ∀ b, H b ≠ none → b = a) (hK : H a ≠ none → K.lookup a = none) :
    codeAny (model P w) callerA (.call (.ref fa) ⟨[.ref a], []⟩) (fun r s' => r = .ok (.ret (.bool true)) ∧ OldK s₁.heap s'.heap ∧ s'.os = s₁.os ∧ AllBare s'.gens) s₁ := by
  have dict_out : ∀ {b : Addr} {o : Obj} {es : Array DictEntry} {ep : Nat}, s₁.heap.get? b = some o → o.data = .dict es ep → H b = none := fun {b o es ep} e d => by
    refine Classical.byContradiction fun z => ?_
    have eb := hA b z
    rw [eb, ha] at e
    cases e
    cases d
  have ns_in : ∀ {b : Addr} {m : Str → Option Value}, s₁.heap.Ns b m → (hidT s₁.heap H).Ns b m := fun {b m} ⟨o, es, ep, e, d, r⟩ => ⟨o, es, ep, hidT_get e (dict_out e d), d, r⟩
  have k_in : K.In (hidT s₁.heap H) := fun b o e => hidT_get (KX b o e) (Classical.byContradiction fun z => by
    have eb := hA b z
    rw [eb] at e z
    rw [hK z] at e
    cases e)
  have md : Mod K mg (hidT s₁.heap H) := ⟨k_in, ns_in hns, ⟨mb, ns_in hb, hbb⟩, let ⟨mc, h1, h2⟩ := hlim; ⟨mc, ns_in h1, h2⟩⟩
  have no : ∀ b : Addr, b ∈ frs ([] : List Env) → False := fun b q => by
    have q2 : b ∈ ([] : List Addr) := q
    cases q2
  have e0 : Env0 P w K mg (hidT s₁.heap H) callerA [] s₁ H := ⟨rfl, md, fun b o e => of_hidT e, Nat.le_of_eq (hidT_size _ _), trivial, fun b q => (no b q).elim, hok, .of_eq hg⟩
  refine codeAny_mono ((F _ k_in (ns_in hns)).run callerA [] s₁ H ⟨[.ref a], []⟩ [.ref a] [.ref a] _ _ hr rfl e0 (hbind s₁ (.ref a)) (.cons rfl .nil) hsp) fun r s' h => ?_
  cases r with
  | error e => exact h.elim
  | ok fl =>
    cases fl with
    | next => exact h.elim
    | brk => exact h.elim
    | cont => exact h.elim
    | ret u =>
      obtain ⟨v, H', os, bare, un, hok', r', q⟩ := h
      have q' : v = .bl true := q
      subst q'
      have eu : u = Value.bool true := r'
      subst eu
      refine ⟨rfl, OldK.of_keep fun b o e => ?_, os, bare⟩
      rcases hO b with z | ⟨ob, xs, z⟩
      · exact un.keep b o e z (fun q => no b q) (by simp)
      · have e1 : s₁.heap.get? b = some ob := (hok b _ z).1
        have e2 : s'.heap.get? b = some ob := (hok' b _ (un.frzs b ob _ z)).1
        rw [e] at e1
        rw [e2, ← e1]
theorem law_callG (KX : K.In s₁.heap) (hns : s₁.heap.Ns mainGlobals mg) (hb : s₁.heap.Ns builtinsNs mb) (hbb : ∀ x : Str, x ≠ "__name__" → mb x = bootBuiltins x) (hlim : s₁.heap.NoLimit) (hg : s₁.gens = #[])
    (ha : s₁.heap.get? a = some { cls := .type "list", data := .seq vs.toArray }) (hi : IntsAre vs ns) (hl : ns.length ≤ sizeLine) (hr : Room k callerA)
    (F : ∀ base : Heap, K.In base → base.Ns mainGlobals mg → FnG P w K mg base CX0 k fa fd [x] sp) (hbind : ∀ (s : Shared) (u : Value), BindsTo s fd ⟨[u], []⟩ [(x, u)])
    (hsp : ∀ H : Hp, SqL K H a (ns.map V.int) → sp [.ref a] H (fun v _ => v = .bl true) fun _ _ _ => False) :
    codeAny (model P w) callerA (.call (.ref fa) ⟨[.ref a], []⟩) (fun r s' => r = .ok (.ret (.bool true)) ∧ OldK s₁.heap s'.heap ∧ s'.os = s₁.os ∧ AllBare s'.gens) s₁ := by
  have rv := vals_ints hi
  cases hk : K.lookup a with
  | some o =>
    have e := KX a o hk
    rw [ha] at e
    cases e
    exact law_core (H := fun _ => none) KX hns hb hbb hlim hg ha hr F hbind (fun _ => .inl rfl) (hsp _ (.inr ⟨_, vs.toArray, _, hk, rfl, rfl, rfl, by rw [List.size_toArray, hi.length]; exact hl, by simpa using rv⟩))
      (fun b u z => by cases z) (fun b z => absurd rfl z) fun z => absurd rfl z
  | none =>
    let H : Hp := fun b => if b = a then some (.frz { cls := .type "list", data := .seq vs.toArray } (.lst (ns.map V.int))) else none
    have at_a : H a = some (.frz { cls := .type "list", data := .seq vs.toArray } (.lst (ns.map V.int))) := if_pos rfl
    have off : ∀ b, b ≠ a → H b = none := fun b z => if_neg z
    refine law_core (H := H) KX hns hb hbb hlim hg ha hr F hbind (fun b => ?_) (hsp _ (.inl (.inr ⟨_, at_a⟩))) (fun b u z => ?_) (fun b z => ?_) fun _ => hk
    · by_cases q : b = a
      · subst q; exact .inr ⟨_, _, at_a⟩
      · exact .inl (off b q)
    · by_cases q : b = a
      · subst q
        rw [at_a] at z
        cases z
        exact ⟨ha, by rw [List.length_map]; exact hl, vs, _, rv, ha⟩
      · rw [off b q] at z; cases z
    · exact Classical.byContradiction fun q => z (off b q)
end
theorem walkG {l : PySem.W.OpenLaw} {n k : Nat} {q : Program} {loose : List Str} {XP : (Str → Option Value) → Heap → Prop} {YP : World → Heap → Prop} {d : DefRec} {x : Str}
    (hn : l.most = some n) (hn2 : n ≤ sizeLine) (hdf : d.params.defaults = []) (hr : Room k callerA)
    (F : ∀ (w : World) (mg : Str → Option Value) (fa : Addr) (h : Heap), YP w h → h.Ns mainGlobals mg → mg d.name = some (.ref fa) →
      ∃ (K : PySem.W.Frag) (fd : FuncData) (sp : Sp), K.In h ∧ (∀ (s : Shared) (u : Value), BindsTo s fd ⟨[u], []⟩ [(x, u)]) ∧
        (∀ (H : Hp) (a : Addr) (ns : List Int), ns.length ≤ n → SqL K H a (ns.map V.int) → sp [.ref a] H (fun v _ => v = .bl true) fun _ _ _ => False) ∧
        ∀ base : Heap, K.In base → base.Ns mainGlobals mg → FnG l.prog w K mg base CX0 k fa fd [x] sp) :
    PySem.W.WalkO q loose XP YP l.row.toRowW d [] (fun f vs => PySem.call f vs) := by
  refine Att.attach_call hn hdf fun w s₀ s₁ mg mb fa o pm cd doc a vs ns G Y ho hd hcd hmg hobj hints hlen hg => ?_
  obtain ⟨K, fd, sp, KX, hb, hsp, hF⟩ := F w mg fa _ Y G.T.g hmg
  exact law_callG KX G.T.g G.T.b G.T.builtins G.T.nolimit hg hobj hints (Nat.le_trans hlen hn2) hr hF hb fun H hS => hsp H a ns hlen hS
end TP

namespace TP
open PySem PySem.Spec PyProof.Rows L2
section
variable {H H' H1 : Hp} {p q : Addr} {o u : HO}
theorem hp_same (s : Same H H') (h : H p = some o) : H' p = some o := s p o h
theorem same_step (s : Same H H') (hq : H' q = none) : Same H (upd H' q u) := s.trans (same_new hq)
/-- an object that H does not know may change -/
theorem same_mut (s : Same H H') (hq : H q = none) : Same H (upd H' q u) := fun b o h => (upd_ne (ne_of_none h hq)).trans (s b o h)
theorem free_back (s : Same H H') (h : H' p = none) : H p = none := s.free h
theorem free_upd (h : upd H q u p = none) : H p = none := by
  by_cases e : p = q
  · subst e; rw [upd_same] at h; cases h
  · rw [upd_ne e] at h; exact h
theorem ne_fresh (h : H p = some o) (hq : H q = none) : p ≠ q := ne_of_none h hq
theorem szl {n : Nat} (h : n.ble 100000 = true) : n ≤ sizeLine := Nat.le_trans (Nat.le_of_ble_eq_true h) (by rw [sizeLine_eq]; decide)
theorem sz_le {n : Nat} (h : n ≤ 100000) : n ≤ sizeLine := Nat.le_trans h (by rw [sizeLine_eq]; decide)
theorem sz_lt {n : Nat} (h : n < 100000) : n < sizeLine := Nat.lt_of_lt_of_le h (by rw [sizeLine_eq]; decide)
end
theorem same_b {l : Addr} {H H' : Hp} (s : Same H H') : SameB l H H' := fun b o _ h => s b o h
theorem SameT.refl (H : Hp) : SameT H H := fun _ _ h _ _ => h
theorem SameT.dct {H : Hp} {l : Addr} {xs : List (Key × V)} {u : HO} (h : H l = some (.dK xs)) : SameT H (upd H l u) := fun a o e _ n => by
  by_cases z : a = l
  · subst z; rw [h] at e; cases e; exact absurd rfl (n xs)
  · exact (upd_ne z).trans e
section
variable {K : PySem.W.Frag} {H : Hp}
theorem dps_len : ∀ {vs : List V} {ds : List PyData}, DpAll K H vs ds → vs.length = ds.length
  | _, _, .nil => rfl
  | _, _, .cons _ r => by rw [List.length_cons, List.length_cons, dps_len r]
theorem dps_get : ∀ {vs : List V} {ds : List PyData} {i : Nat} {v : V}, DpAll K H vs ds → vs[i]? = some v → ∃ d, ds[i]? = some d ∧ Dp K H v d
  | _, _, i, _, .nil, e => by simp at e
  | _, _, 0, _, .cons h _, e => by simp at e; subst e; exact ⟨_, rfl, h⟩
  | _, _, i + 1, v, .cons _ r, e => by
    obtain ⟨d, h1, h2⟩ := dps_get (i := i) r (by simpa using e)
    exact ⟨d, by simpa using h1, h2⟩
theorem dps_get' : ∀ {vs : List V} {ds : List PyData} {i : Nat} {d : PyData}, DpAll K H vs ds → ds[i]? = some d → ∃ v, vs[i]? = some v ∧ Dp K H v d
  | _, _, i, _, .nil, e => by simp at e
  | _, _, 0, _, .cons h _, e => by simp at e; subst e; exact ⟨_, rfl, h⟩
  | _, _, i + 1, v, .cons _ r, e => by
    obtain ⟨d, h1, h2⟩ := dps_get' (i := i) r (by simpa using e)
    exact ⟨d, by simpa using h1, h2⟩
theorem dps_snoc : ∀ {vs : List V} {ds : List PyData} {v : V} {d : PyData}, DpAll K H vs ds → Dp K H v d → DpAll K H (vs ++ [v]) (ds ++ [d])
  | _, _, _, _, .nil, h => .cons h .nil
  | _, _, _, _, .cons a r, h => .cons a (dps_snoc r h)
theorem dps_app : ∀ {vs ws : List V} {ds es : List PyData}, DpAll K H vs ds → DpAll K H ws es → DpAll K H (vs ++ ws) (ds ++ es)
  | _, _, _, _, .nil, h => h
  | _, _, _, _, .cons a r, h => .cons a (dps_app r h)
theorem dps_take : ∀ {vs : List V} {ds : List PyData} (n : Nat), DpAll K H vs ds → DpAll K H (vs.take n) (ds.take n)
  | _, _, 0, _ => by simp; exact .nil
  | _, _, n + 1, .nil => by simp; exact .nil
  | _, _, n + 1, .cons h r => by simp; exact .cons h (dps_take n r)
theorem dps_drop : ∀ {vs : List V} {ds : List PyData} (n : Nat), DpAll K H vs ds → DpAll K H (vs.drop n) (ds.drop n)
  | _, _, 0, r => by simpa using r
  | _, _, n + 1, .nil => by simp; exact .nil
  | _, _, n + 1, .cons h r => by simp; exact dps_drop n r
theorem dp_int_inv {v : V} {i : Int} (h : Dp K H v (.int i)) : v = .int i := by cases h; rfl
theorem dp_str_inv {v : V} {x : Str} (h : Dp K H v (.str x)) : v = .str x := by cases h; rfl
theorem dp_tup_inv {v : V} {ds : List PyData} (h : Dp K H v (.tuple ds)) : ∃ a xs, v = .ref a ∧ SqT K H a xs ∧ DpAll K H xs ds := by cases h with | tup h r => exact ⟨_, _, rfl, h, r⟩
theorem dp_lst_inv {v : V} {ds : List PyData} (h : Dp K H v (.list ds)) : ∃ a xs, v = .ref a ∧ SqL K H a xs ∧ DpAll K H xs ds := by cases h with | lst h r => exact ⟨_, _, rfl, h, r⟩
end
section
variable {σ : L2.St} {H : Hp} {Q : VK} {QB : Bool → Hp → Prop} {QA : List V → Hp → Prop} {QO : Option Int → Hp → Prop} {ta tb tc te : TE} {tt tu : TT} {tr : TA} {D : Ends} {s t u : TS} {g : TG} {gs : TGs} {r r' : R2} {v x y : V} {E : XK} {sp : Sp}
theorem w_var {i : Nat} (e : σ[i]? = some (some v)) (h : Q v H) : tVar i σ H Q := ⟨v, e, h⟩
theorem w_c (h : Q v H) : tC v σ H Q := h
theorem w_op (h : ta σ H fun x H1 => tb σ H1 fun y H2 => r x y H2 Q) : tOp r ta tb σ H Q := h
theorem w_un {r : V → Hp → VK → Prop} (h : ta σ H fun x H1 => r x H1 Q) : tUn r ta σ H Q := h
theorem w_U {g : Int → V} {i : Int} (h : Q (g i) H) : rU g (.int i) H Q := ⟨i, rfl, h⟩
theorem w_I0 {g : Int → Int → V} {i j : Int} (h : Q (g i j) H) : rI0 g (.int i) (.int j) H Q := ⟨i, j, rfl, rfl, h⟩
theorem w_I {C : Int → Int → Prop} {g : Int → Int → V} {i j : Int} (c : C i j) (h : Q (g i j) H) : rI C g (.int i) (.int j) H Q := ⟨i, j, rfl, rfl, c, h⟩
theorem w_eq (c : scal x y = true) (h : Q (.bl (decide (x = y))) H) : rEq x y H Q := ⟨c, h⟩
theorem w_eqI {i j : Int} (h : Q (.bl (decide (i = j))) H) : rEq (.int i) (.int j) H Q := by
  refine ⟨rfl, ?_⟩
  have e : decide (V.int i = V.int j) = decide (i = j) := by
    by_cases z : i = j
    · subst z; simp
    · rw [decide_eq_false z, decide_eq_false fun q => z (V.int.inj q)]
  rw [e]; exact h
theorem w_neI {i j : Int} (h : Q (.bl (!decide (i = j))) H) : rNe (.int i) (.int j) H Q := by
  refine ⟨rfl, ?_⟩
  have e : decide (V.int i = V.int j) = decide (i = j) := by
    by_cases z : i = j
    · subst z; simp
    · rw [decide_eq_false z, decide_eq_false fun q => z (V.int.inj q)]
  rw [e]; exact h
theorem w_eqS {i j : Str} (h : Q (.bl (decide (i = j))) H) : rEq (.str i) (.str j) H Q := by
  refine ⟨rfl, ?_⟩
  have e : decide (V.str i = V.str j) = decide (i = j) := by
    by_cases z : i = j
    · subst z; simp
    · rw [decide_eq_false z, decide_eq_false fun q => z (V.str.inj q)]
  rw [e]; exact h
theorem w_neS {i j : Str} (h : Q (.bl (!decide (i = j))) H) : rNe (.str i) (.str j) H Q := by
  refine ⟨rfl, ?_⟩
  have e : decide (V.str i = V.str j) = decide (i = j) := by
    by_cases z : i = j
    · subst z; simp
    · rw [decide_eq_false z, decide_eq_false fun q => z (V.str.inj q)]
  rw [e]; exact h
theorem w_isB {a b : Bool} (h : Q (.bl (decide (a = b))) H) : rIsB (.bl a) (.bl b) H Q := ⟨a, b, rfl, rfl, h⟩
theorem w_notB {a b : Bool} (h : Q (.bl (!decide (a = b))) H) : rNotB (.bl a) (.bl b) H Q := ⟨a, b, rfl, rfl, h⟩
theorem w_call (h : tr σ H fun vs H1 => sp vs H1 Q E) : tCall sp [] E tr σ H Q := by
  have e : (fun (vs : List V) (H1 : Hp) => sp (vs ++ []) H1 Q E) = fun vs H1 => sp vs H1 Q E := by funext vs H1; rw [List.append_nil]
  show tr σ H fun vs H1 => sp (vs ++ []) H1 Q E
  rw [e]; exact h
theorem w_CB {r : List V → Hp → VK → Prop} (h : tr σ H fun vs H1 => r vs H1 Q) : tCB r tr σ H Q := h
theorem w_nil (h : QA [] H) : tNil σ H QA := h
theorem w_cons (h : ta σ H fun x H1 => tr σ H1 fun xs H2 => QA (x :: xs) H2) : tCons ta tr σ H QA := h
theorem w_tup (h : tr σ H fun xs H1 => AllocT xs H1 Q) : tTup tr σ H Q := h
theorem w_lst (h : tr σ H fun xs H1 => AllocL xs H1 Q) : tLst tr σ H Q := h
theorem w_allocT {xs : List V} (l : xs.length.ble 100000 = true) (h : ∀ p, H p = none → Q (.ref p) (upd H p (.tup xs))) : AllocT xs H Q := ⟨szl l, h⟩
theorem w_allocL {xs : List V} (l : xs.length.ble 100000 = true) (h : ∀ p, H p = none → Q (.ref p) (upd H p (.lst xs))) : AllocL xs H Q := ⟨szl l, h⟩
theorem w_bl {c : Bool} {k : Bool → Prop} (h : k c) : BlC H (.bl c) k := ⟨c, rfl, h⟩
theorem w_andV (h : ta σ H fun x H1 => BlC H1 x fun c => if c = true then tb σ H1 Q else Q (.bl false) H1) : tAndV ta tb σ H Q := h
theorem w_orV (h : ta σ H fun x H1 => BlC H1 x fun c => if c = true then Q (.bl true) H1 else tb σ H1 Q) : tOrV ta tb σ H Q := h
theorem w_notV (h : ta σ H fun x H1 => BlC H1 x fun c => Q (.bl (!c)) H1) : tNotV ta σ H Q := h
theorem w_if (h : tt σ H fun c H1 => if c = true then ta σ H1 Q else tb σ H1 Q) : tIf tt ta tb σ H Q := h
theorem w_test (h : te σ H fun x H1 => BlC H1 x fun c => QB c H1) : tTest te σ H QB := h
theorem w_B (h : te σ H fun x H1 => BlC H1 x fun c => QB c H1) : tB te σ H QB := h
theorem w_and (h : tt σ H fun c H1 => if c = true then tu σ H1 QB else QB false H1) : tAnd tt tu σ H QB := h
theorem w_or (h : tt σ H fun c H1 => if c = true then QB true H1 else tu σ H1 QB) : tOr tt tu σ H QB := h
theorem w_not (h : tt σ H fun c H1 => QB (!c) H1) : tNot tt σ H QB := h
theorem w_chain (h : ta σ H fun x H1 => tb σ H1 fun y H2 => r x y H2 fun z H3 => BlC H3 z fun k => if k = true then tc σ H3 fun w' H4 => r' y w' H4 Q else Q (.bl false) H3) : tChain r r' ta tb tc σ H Q := h
theorem w_seq (h : t { D with nx := u D } σ H) : tSeq t u D σ H := h
theorem w_next (h : D.nx σ H) : tNext D σ H := h
theorem w_asg (h : te σ H fun x H1 => g x σ H1 D.nx) : tAsg te g D σ H := h
theorem w_gname {i : Nat} {QS : L2.St → Hp → Prop} (h : QS (σ.set i (some v)) H) : gName i v σ H QS := h
theorem w_gtup {K : PySem.W.Frag} {n : Nat} {a : Addr} {xs : List V} {QS : L2.St → Hp → Prop} (hs : SqT K H a xs) (hn : xs.length = n) (h : gs xs σ H QS) : gTup K n gs (.ref a) σ H QS := ⟨a, xs, rfl, hs, hn, h⟩
theorem w_gcons {xs : List V} {QS : L2.St → Hp → Prop} (h : g x σ H fun σ' H' => gs xs σ' H' QS) : gCons g gs (x :: xs) σ H QS := ⟨x, xs, rfl, h⟩
theorem w_gnil {QS : L2.St → Hp → Prop} (h : QS σ H) : gNil [] σ H QS := ⟨rfl, h⟩
theorem w_gsub {to ti : TE} {ts : TSet} {QS : L2.St → Hp → Prop} (h : to σ H fun o H1 => ti σ H1 fun i H2 => ts o i v H2 fun H3 => QS σ H3) : gSub to ti ts v σ H QS := h
theorem w_setL {p : Addr} {xs : List V} {i : Int} {j : Nat} {QH : Hp → Prop} (hp : H p = some (.lst xs)) (hj : ixN xs.length i = some j) (h : QH (upd H p (.lst (xs.set j v)))) : rSetL (.ref p) (.int i) v H QH := ⟨p, xs, i, j, rfl, rfl, hp, hj, h⟩
theorem w_ret (h : te σ H D.rt) : tRet te D σ H := h
theorem w_retN (h : D.rt .non H) : tRetN D σ H := h
theorem w_ifS {c : TT} (h : c σ H fun b H1 => if b = true then t D σ H1 else u D σ H1) : tIfS c t u D σ H := h
theorem w_drop (h : te σ H fun _ H1 => D.nx σ H1) : tDrop te D σ H := h
theorem w_aug {i : Nat} {ti : TIp} (e : σ[i]? = some (some v)) (h : te σ H fun y H1 => ti v y H1 fun z H2 => D.nx (σ.set i (some z)) H2) : tAug i te ti D σ H := ⟨v, e, h⟩
theorem w_ipI {f : Int → Int → Int} {i j : Int} (h : Q (.int (f i j)) H) : ipI f (.int i) (.int j) H Q := ⟨i, j, rfl, rfl, h⟩
theorem w_break (h : D.bk σ H) : tBreak D σ H := h
theorem w_cont (h : D.ct σ H) : tCont D σ H := h
theorem w_nx {n : L2.St → Hp → Prop} {r : VK} {b c : L2.St → Hp → Prop} (h : n σ H) : Ends.nx ⟨n, r, b, c⟩ σ H := h
theorem w_rt {n : L2.St → Hp → Prop} {r : VK} {b c : L2.St → Hp → Prop} (h : r v H) : Ends.rt ⟨n, r, b, c⟩ v H := h
theorem w_bk {n : L2.St → Hp → Prop} {r : VK} {b c : L2.St → Hp → Prop} (h : b σ H) : Ends.bk ⟨n, r, b, c⟩ σ H := h
theorem w_ct {n : L2.St → Hp → Prop} {r : VK} {b c : L2.St → Hp → Prop} (h : c σ H) : Ends.ct ⟨n, r, b, c⟩ σ H := h
theorem w_iteT {A B : Prop} (h : A) : if true = true then A else B := by rw [if_pos rfl]; exact h
theorem w_iteF {A B : Prop} (h : B) : if false = true then A else B := by rw [if_neg Bool.false_ne_true]; exact h
theorem w_ited {c A B : Prop} [Decidable c] (h1 : c → A) (h2 : ¬ c → B) : if decide c = true then A else B := by
  by_cases h : c
  · rw [if_pos (decide_eq_true h)]; exact h1 h
  · rw [if_neg (by rw [decide_eq_false h]; exact Bool.false_ne_true)]; exact h2 h
theorem w_iten {c A B : Prop} [Decidable c] (h1 : ¬ c → A) (h2 : c → B) : if (!decide c) = true then A else B := by
  by_cases h : c
  · rw [if_neg (by rw [decide_eq_true h]; exact Bool.false_ne_true)]; exact h2 h
  · rw [if_pos (by rw [decide_eq_false h]; rfl)]; exact h1 h
theorem w_iteb {b : Bool} {A B : Prop} (h1 : b = true → A) (h2 : b = false → B) : if b = true then A else B := by
  cases b
  · exact w_iteF (h2 rfl)
  · exact w_iteT (h1 rfl)
theorem w_itenb {b : Bool} {A B : Prop} (h1 : b = false → A) (h2 : b = true → B) : if (!b) = true then A else B := by
  cases b
  · exact w_iteT (h1 rfl)
  · exact w_iteF (h2 rfl)
theorem w_nott {A B : Prop} (h : B) : if (!true) = true then A else B := w_iteF h
theorem w_notf {A B : Prop} (h : A) : if (!false) = true then A else B := w_iteT h
theorem w_BM {K : PySem.W.Frag} {T : String} {r : V → List V → Hp → VK → Prop} (h : te σ H fun x H1 => tyV K T x H1 ∧ tr σ H1 fun xs H2 => r x xs H2 Q) : tBM K T r te tr σ H Q := h
theorem w_BM0 {K : PySem.W.Frag} {T : String} {r : V → List V → Hp → VK → Prop} (h : te σ H fun x H1 => tyV K T x H1 ∧ r x [] H1 Q) : tBM0 K T r te σ H Q := h
theorem w_sl {r : V → Option Int → Option Int → Hp → VK → Prop} {tl th : TO} (h : te σ H fun x H1 => tl σ H1 fun l H2 => th σ H2 fun u H3 => r x l u H3 Q) : tSl r te tl th σ H Q := h
theorem w_nopart (h : QO none H) : tNoPart σ H QO := h
theorem w_ixL {K : PySem.W.Frag} {p : Addr} {xs : List V} {i : Int} (hs : SqL K H p xs) (ha : atI xs i = some v) (h : Q v H) : rIxL K (.ref p) (.int i) H Q := ⟨p, xs, i, v, rfl, rfl, hs, ha, h⟩
theorem w_ixT {K : PySem.W.Frag} {p : Addr} {xs : List V} {i : Int} (hs : SqT K H p xs) (ha : atI xs i = some v) (h : Q v H) : rIxT K (.ref p) (.int i) H Q := ⟨p, xs, i, v, rfl, rfl, hs, ha, h⟩
theorem w_dnewK (h : ∀ p, H p = none → Q (.ref p) (upd H p (.dK []))) : tDNewK σ H Q := h
end
end TP

namespace PySem
open Sem (wp)
theorem tp_enum_new {v : Value} {o : Obj} {H : Heap → Prop} (B : Begins v o H) :
    Meets (Builtin.«enumerate.__new__» ⟨[.type "enumerate", v], []⟩) (fun _ R s => H s.heap ∧
      R (.ok (.ret (.ref (s.heap.push o).objs.size))) { s with heap := (s.heap.push o).push { cls := .type "enumerate", data := .fields #[.none, .bool false, .ref s.heap.objs.size, rawInt 0, .none, .none] } }) :=
  .of_wp fun prog w A R s h => by
    obtain ⟨hp, g, d, tk, os⟩ := s; obtain ⟨h1, h⟩ := h
    have hsub := sub_enumerate
    have q1 : ∀ {A' : Around} {E : Value → Shared → Prop} {Q : Value → Shared → Prop}, Q (.ref hp.objs.size) ⟨hp.push o, g, d, tk, os⟩ → wpAny (model prog w) A' (pyIter v) Q E ⟨hp, g, d, tk, os⟩ :=
      fun q => B.iter prog w _ _ ⟨hp, g, d, tk, os⟩ _ h1 q
    wp_walk using q1
    refine wpAny_stack_any fun st => wpAny_pure ?_
    split
    · rename_i c _ _ _ _ _
      cases (c == Value.type "enumerate") <;> (wp_walk using q1; exact ⟨_, rfl, h⟩)
    · wp_walk using q1
      exact ⟨_, rfl, h⟩
theorem tp_enum_begins {prog : Program} {w : World} {A : Around} {E : Value → Shared → Prop} {s : Shared} {v : Value} {o : Obj} {H : Heap → Prop} {Q : Value → Shared → Prop} (B : Begins v o H) (h1 : H s.heap)
    (h : ∀ h', IsEnum h' (s.heap.objs.size + 1) s.heap.objs.size 0 .none → h'.get? s.heap.objs.size = some o → h'.objs.size = s.heap.objs.size + 2 →
      (∀ b o, s.heap.get? b = some o → h'.get? b = some o) → Q (.ref (s.heap.objs.size + 1)) { s with heap := h' }) :
    wpAny (model prog w) A (call (.type "enumerate") [v]) Q E s := by
  refine callType_new F.called_enumerate (by decide) (F.typeCall_enumerate_1 _) (F.newCall_enumerate_1 _) (fun obj => F.args_object_init_2 obj _) F.entry_enumerate_new (tp_enum_new B) ⟨h1, ?_⟩
  have hz : (s.heap.push o).objs.size = s.heap.objs.size + 1 := Heap.size_push ..
  show _ ∧ _
  rw [hz]
  have he : IsEnum ((s.heap.push o).push { cls := .type "enumerate", data := .fields #[.none, .bool false, .ref s.heap.objs.size, rawInt 0, .none, .none] }) (s.heap.objs.size + 1) s.heap.objs.size 0 .none := by
    have q := Heap.get?_push_size (s.heap.push o) (o := { cls := .type "enumerate", data := .fields #[.none, .bool false, .ref s.heap.objs.size, rawInt 0, .none, .none] }) rfl
    rw [hz] at q; exact q
  exact ⟨⟨_, he, rfl⟩, h _ he (Heap.get?_push_of_some _ (Heap.get?_push_size _ B.free)) (by rw [Heap.size_push, hz]) fun b o x => Heap.get?_push_of_some _ (Heap.get?_push_of_some _ x)⟩
end PySem
namespace TP
open PySem PySem.Spec PyProof.Rows L2
theorem istuple_of {h : Heap} {a : Addr} {items : Array Value} (p : IsTup h a items) : h.IsTuple a items := by
  obtain ⟨o, ho, hc, n, hd⟩ := p
  exact ⟨o, ho, hc, n, hd⟩
theorem turn_enumT {P : Program} {w : World} {K : PySem.W.Frag} {elts : List Expr} {kk : Nat} {tpos : Pos} (a e it : Addr) :
    Turn P w K (.Tuple elts kk tpos) (IteT K a) [e, it] e (fun i h => (∃ old, IsEnum h e it ((i : Nat) : Int) old) ∧ h.IsTupleIter it a i ∧ e ≠ it) where
  mem := by simp
  obj := fun i h st b hb => by
    obtain ⟨⟨old, he⟩, ⟨o, ho, hc, hd⟩, _⟩ := st
    rcases (show b = e ∨ b = it by simpa using hb) with z | z
    · rw [z]; exact ⟨_, he, fun v q => nomatch q⟩
    · rw [z]; exact ⟨o, ho, fun v q => by rw [hd] at q; cases q⟩
  keep := fun i h h' st k => let ⟨⟨old, he⟩, hi, hne⟩ := st; ⟨⟨old, k e (by simp) _ he⟩, hi.at fun o q => k it (by simp) o q, hne⟩
  item := by
    intro X hP hw hK hc i pins s σ H E I hf st hg
    subst hP hw hK
    obtain ⟨⟨old, he⟩, hit, hne⟩ := st
    obtain ⟨xs, x, hq, hx⟩ := hg
    obtain ⟨its, rv, p, hz⟩ := I.tuple hq
    obtain ⟨u, hu, ru⟩ := rv.get hx
    have hel : e < s.heap.objs.size := Heap.lt_size he
    have hil : it < s.heap.objs.size := by obtain ⟨_, q, _⟩ := hit; exact Heap.lt_size q
    have hta := istuple_of p
    have nai : a ≠ it := fun z => by
      subst z
      obtain ⟨o1, h1, c1, _⟩ := hit
      obtain ⟨o2, h2, c2, _⟩ := hta
      rw [h1] at h2; cases h2
      rw [c1] at c2
      exact absurd (Value.type.inj c2) (by decide)
    have nae : a ≠ e := fun z => by
      subst z
      obtain ⟨o2, h2, c2, _⟩ := hta
      have h1 : s.heap.get? a = some _ := he
      rw [h1] at h2; cases h2
      exact absurd (Value.type.inj c2) (by decide)
    have D := Draws.tuple (prog := X.prog) (w := X.w) (A := X.A.in1) (by have := I.ok.hd hc; exact this) it a nai its.toArray
    have hlt : i < its.toArray.size := by
      obtain ⟨hh, _⟩ := List.getElem?_eq_some_iff.mp hu
      simpa using hh
    refine wpAny_pyNext_enum_itemD D he ⟨hit, hta⟩ hlt hne (by simp [Ne.symm nae, hne]) fun x' h' tk hx' ho hst' hT hsz hk => ?_
    have ex : x' = u := by
      have : its.toArray[i]? = some x' := hx'
      have q : its[i]? = some x' := by simpa using this
      rw [hu] at q; cases q; rfl
    subst ex
    refine ⟨_, rfl, wpAny_letOwnedTupleGo_enum (s := { s with heap := h', toks := tk + 1 }) ho fun h'' he' sb => ?_⟩
    have hT2 : h''.get? s.heap.objs.size = some { cls := .type "tuple", data := .seq #[.int i tk, x'] } := (sb.2 _ (Nat.ne_of_gt hel)).trans hT
    have new : ObjOk X.prog X.w (upd H s.heap.objs.size (.tup [.int (i : Nat), x])) h'' s.heap.objs.size (.tup [.int (i : Nat), x]) :=
      ⟨by show 2 ≤ sizeLine; decide, [.int i tk, x'], .cons ⟨_, rfl⟩ (.cons ru .nil), ⟨_, hT2, rfl, _, rfl⟩⟩
    have I1 : Inv X pins σ (upd H s.heap.objs.size (.tup [.int (i : Nat), x])) { s with heap := h'', toks := tk + 1 } :=
      I.turnedNew (ch := [e, it]) (fun b ob hb q => (sb.2 b (fun z => hb (by simp [z]))).trans (hk b ob (fun z => hb (by simp [z])) (fun z => hb (by simp [z])) q)) hf (Nat.le_refl _) new
    refine ⟨.ref s.heap.objs.size, _, I1, rfl, ⟨_, x, rfl, I.hok.fresh (Nat.le_refl _), rfl, fun ys hy => by rw [I.tuple_inj hy hq]; exact hx⟩, ⟨⟨x', ?_⟩, hst'.1.at fun o q => (sb.2 it (Ne.symm hne)).trans q, hne⟩, fun b hb => ?_⟩
    · have e1 : ((i + 1 : Nat) : Int) = (i : Int) + 1 := by omega
      rw [e1]; exact he'
    · have hb' : b < s.heap.objs.size := by
        rcases (show b = e ∨ b = it by simpa using hb) with z | z
        · rw [z]; exact hel
        · rw [z]; exact hil
      rw [upd_ne (Nat.ne_of_lt hb')]
      exact (hf b hb).1
  done := by
    intro X hP hw hK hc i pins s σ H E I hf st hg
    subst hP hw hK
    obtain ⟨⟨old, he⟩, hit, hne⟩ := st
    obtain ⟨xs, hq, hx⟩ := hg
    obtain ⟨its, rv, p, hz⟩ := I.tuple hq
    obtain ⟨f0, f1, f2, f3, f4, f5⟩ := hf it (by simp)
    have hl := rv.length
    have hta := istuple_of p
    have nai : a ≠ it := fun z => by
      subst z
      obtain ⟨o1, h1, c1, _⟩ := hit
      obtain ⟨o2, h2, c2, _⟩ := hta
      rw [h1] at h2; cases h2
      rw [c1] at c2
      exact absurd (Value.type.inj c2) (by decide)
    have D := Draws.tuple (prog := X.prog) (w := X.w) (A := X.A.in1) (by have := I.ok.hd hc; exact this) it a nai its.toArray
    have hi : i = its.toArray.size := by simp; omega
    exact wpAny_pyNext_enum_endD D he ⟨by rw [← hi]; exact hit, hta⟩ fun h' eb => ⟨rfl, I.turned (t' := s.toks) (fun b o hb q => eb b o hb q) f0 f1 f3 f4 f5⟩
  self := fun A i s Q E st h => let ⟨⟨_, he⟩, _⟩ := st; wpAny_pyIter_enum he h
theorem pi_enumT {X : Cx} {e : Expr} {ta : TA} {p pos tpos : Pos} {elts : List Expr} {kk : Nat} (hg : Gl X "enumerate") (hm : X.mg "enumerate" = none) (ha : PA X [e] ta) (hs : starEach [e] X.env = [(false, eval e X.env)] := by rfl) :
    PI X (.Tuple elts kk tpos) (.Call (.Name "enumerate" p) [e] [] pos) (iEnumT X.K ta) := by
  refine ⟨fun pins s σ H R I h => ?_⟩
  refine Call_ (ld_blt I hg hm boot_enumerate (PyProof.Rows.callWith_type1 (thn (ha.run pos pins s σ H _ I h) fun us s1 ⟨vs, H1, I1, r1, q1⟩ => ?_) hs rfl))
  obtain ⟨a, xs, ex, hq, q⟩ := q1
  subst ex
  obtain ⟨u, rfl, ru⟩ := vals1 r1
  have eu : u = .ref a := ru
  subst eu
  obtain ⟨its, rv, p', hz⟩ := I1.tuple hq
  refine tp_enum_begins (begins_tuple a its.toArray) (istuple_of p') fun h' he hit hsz hk => wpAny_pyIter_enum he ?_
  have I2 : Inv X pins σ H1 { s1 with heap := h' } := I1.kept (t' := s1.toks) hk
  refine ⟨s1.heap.objs.size + 1, [s1.heap.objs.size + 1, s1.heap.objs.size], _, _, H1, rfl, I2, turn_enumT a (s1.heap.objs.size + 1) s1.heap.objs.size, ⟨⟨.none, he⟩, ⟨_, hit, rfl, rfl⟩, Nat.succ_ne_self _⟩, fun b hb => ?_, q⟩
  have hle : s1.heap.objs.size ≤ b := by
    rcases (show b = s1.heap.objs.size + 1 ∨ b = s1.heap.objs.size by simpa using hb) with z | z
    · rw [z]; exact Nat.le_add_right _ _
    · rw [z]; exact Nat.le_refl _
  exact I1.fpOk hle (I1.hok.fresh hle)
theorem walk_enumT {K : PySem.W.Frag} {a : Addr} {xs : List V} : Walk (IteT K a) xs.length (fun H => SqT K H a xs) (YPair (fun i => some (.int (i : Nat))) (fun i => xs[i]?)) where
  goes := fun i H hi h => by
    obtain ⟨x, hx⟩ : ∃ x, xs[i]? = some x := ⟨_, List.getElem?_eq_getElem hi⟩
    exact ⟨xs, x, h, hx⟩
  stops := fun H h => ⟨xs, h, rfl⟩
  yields := fun i H v H' _ h ⟨T, x, e1, e2, e3, e4⟩ => ⟨T, .int (i : Nat), x, e1, e2, e3, rfl, e4 xs h⟩
end TP

namespace TP
open PySem PySem.Spec PyProof.Rows L2
theorem w_repr {K : PySem.W.Frag} {H : Hp} {Q : VK} {v : V} {d : PyData} (h : Dp K H v d) (s : Shows d) (q : Q (.str d.shown) H) : rRepr K [v] H Q := ⟨v, d, rfl, h, s, q⟩
theorem call_repr {X : Cx} (hg : X.A.guards = some []) (hu : X.A.units + 64 < cLine) : CallR X (.builtin "repr") (rRepr X.K) := by
  intro pins s σ H xs us Q I r h
  obtain ⟨v, d, rfl, hd, hs, q⟩ := h
  obtain ⟨u, rfl, ru⟩ := vals1 r
  have hz : d.shown.length ≤ sizeLine := Nat.le_trans (shown_le d hs.ok) (Nat.le_trans hs.len (by rw [sizeLine_eq]; exact Nat.le_refl _))
  obtain ⟨s1, s2⟩ := showable_of d hs.ok
  have big : ∀ a, u = .ref a → wpAny (model X.prog X.w) X.A (call (.builtin "repr") [u]) (EP X pins σ Q) X.xe s := fun a e => by
    subst e
    obtain ⟨as, rd⟩ := Dp.reads I d v _ hd ru
    refine repr_of_reads' rd s1 (fun z => by rw [s2] at z; cases z) hg (by have := hs.deep; omega) (fun _ _ e => e) (fun h' w' tk hk => ?_) hz
    exact ⟨.str d.shown, H, I.kept (t' := tk) hk, ⟨_, rfl⟩, q⟩
  cases hd with
  | non =>
    have e : u = .none := ru
    subst e
    exact PySem.P.repr_of_none ⟨.str _, H, I.tok _, ⟨_, rfl⟩, q⟩
  | bl b =>
    have e : u = .bool b := ru
    subst e
    refine PySem.P.repr_of_bool ⟨.str _, H, I.tok _, ⟨_, rfl⟩, ?_⟩
    cases b <;> exact q
  | int i =>
    obtain ⟨t, rfl⟩ := ru
    refine PySem.P.repr_of_int ?_ ⟨.str _, H, I.tok _, ⟨_, rfl⟩, q⟩
    simpa [okD] using hs.ok
  | str x =>
    obtain ⟨t, rfl⟩ := ru
    exact PySem.P.repr_of_str ⟨.str _, H, I.tok _, ⟨_, rfl⟩, q⟩ hz
  | lst _ _ => exact big _ ru
  | tup _ _ => exact big _ ru
/-- isinstance of a value of that type -/
theorem w_isi {K : PySem.W.Frag} {H : Hp} {Q : VK} {v : V} {t T : String} {b : Bool} (h : TyX K H v (.type t)) (e : kitB t T = some b) (q : Q (.bl b) H) : rIsi K [v, .ty T] H Q := ⟨v, .ty T, .type t, .type T, b, rfl, .ty T, h, kit_ty e, q⟩
theorem w_isiD {K : PySem.W.Frag} {H : Hp} {Q : VK} {v : V} {d : PyData} {T : String} {b : Bool} (h : Dp K H v d) (e : kitB (tyD d) T = some b) (q : Q (.bl b) H) : rIsi K [v, .ty T] H Q := w_isi (ty_dp h) e q
theorem foldl_cat (l : List (Array Nat)) : ∀ acc : Array Nat, l.foldl (· ++ ·) acc = acc ++ ((l.map Array.toList).flatten).toArray := by
  induction l with
  | nil => intro acc; simp
  | cons a r ih => intro acc; rw [List.foldl_cons, ih]; apply Array.ext'; simp
theorem op_mul_str {X : Cx} : OpR X (binaryOp .Mult) (fun x y H Q => ∃ (z : Str) (n : Nat), x = .str z ∧ y = .int (n : Nat) ∧ z.length * n ≤ 100000 ∧ n ≤ 100000 ∧ Q (.str (repS n z)) H) := by
  intro pins s σ H x y v u Q I rx ry h
  obtain ⟨z, n, rfl, rfl, hz, hn, q⟩ := h
  obtain ⟨t, rfl⟩ := rx
  obtain ⟨t', rfl⟩ := ry
  refine PySem.P.mul_str ?_ (fun _ _ => ?_) (fun _ _ => ?_) ?_
  · rw [decide_eq_false (show ¬ ((n : Int) < -(2 ^ 63)) by omega), decide_eq_false (show ¬ ((n : Int) ≥ 2 ^ 63) by omega)]; rfl
  · rename_i h1 h2
    have hn1 : 1 ≤ n := by omega
    have hz2 : (z.length : Int) * (n : Int) ≤ 100000 := by
      have q := Int.ofNat_le.mpr hz
      rw [Int.natCast_mul] at q
      exact q
    have hd : (z.length : Int) ≤ (2 ^ 63 - 1) / (n : Int) := Int.le_ediv_of_mul_le (by omega) (by omega)
    omega
  · unfold Builtin.Str.tooLong
    have e : ((n : Int)).toNat = n := by omega
    rw [e]
    exact decide_eq_false (by have := sz_le hz; omega)
  · have e : ((n : Int)).toNat = n := by omega
    rw [e]
    have fin : ∀ y : Str, y = repS n z → Made.post (Made.str y) (EP X pins σ Q) s := fun y ey => by
      subst ey
      refine ⟨?_, .str _, H, I.tok _, ⟨_, rfl⟩, q⟩
      show (repS n z).length ≤ sizeLine
      have el : (repS n z).length = z.length * n := by
        show ((List.replicate n z.cps.toList).flatten).toArray.size = z.cps.size * n
        simp [Nat.mul_comm]
      rw [el]; exact sz_le hz
    by_cases h1 : (n : Int) < 1
    · rw [if_pos h1]
      refine fin _ ?_
      have : n = 0 := by omega
      subst this
      rfl
    · rw [if_neg h1]
      by_cases h2 : ((n : Int) == 1 || z.length == 0) = true
      · rw [if_pos h2]
        have ez : z = repS n z := by
          rcases Bool.or_eq_true_iff.mp h2 with h3 | h3
          · have : n = 1 := by have := eq_of_beq h3; omega
            subst this
            unfold repS
            simp
          · have h4 : z.cps.size = 0 := by simpa [Str.length] using h3
            have h5 : z.cps = #[] := Array.eq_empty_of_size_eq_zero h4
            unfold repS
            cases z with
            | mk c =>
              have h6 : c = #[] := h5
              subst h6
              simp
        refine ⟨.str z, H, I, ⟨t, rfl⟩, ?_⟩
        rw [ez]
        rw [← ez]
        rw [← ez] at q
        exact q
      · rw [if_neg h2]
        refine fin _ ?_
        unfold repS
        rw [foldl_cat]
        simp
end TP

namespace TP
open PySem PySem.Spec PyProof.Rows L2
section
variable {P : Program} {w : World} {H H0 : Hp} {h h' : Heap} {p : Addr}
theorem objok_retrack {o u : HO} {a : Addr} (hp : H p = some o) (no : ∀ y, o ≠ .own y) (nt : ∀ xs, o ≠ .tup xs) {v : HO} (x : ObjOk P w H h a v) : ObjOk P w (upd H p u) h a v := by
  refine x.stay (fun b w' _ e => e) (fun b e => ?_) fun b xs e => ?_
  · exact (upd_ne (ne_of e hp fun z => no a z.symm)).trans e
  · exact (upd_ne (ne_of e hp fun z => nt xs z.symm)).trans e
theorem hok_retrack {o u : HO} (ok : HOk P w H h) (hp : H p = some o) (no : ∀ y, o ≠ .own y) (nt : ∀ xs, o ≠ .tup xs) (new : ObjOk P w (upd H p u) h p u) : HOk P w (upd H p u) h := fun a v e => by
  by_cases z : a = p
  · subst z; rw [upd_same] at e; cases e; exact new
  · rw [upd_ne z] at e
    exact objok_retrack hp no nt (ok a v e)
theorem pool_of_lst {s d c : Int} (ok : HOk P w H h) (hp : H p = some (.lst [.int s, .int d, .int c])) (hv : PoolV s d c) : HOk P w (upd H p (poolO p)) h := by
  refine hok_retrack ok hp (fun _ => nofun) (fun _ => nofun) ?_
  obtain ⟨_, its, n, r, e⟩ := ok p _ hp
  exact ⟨⟨s, d, c, its, n, r, hv, e⟩, ⟨_, e⟩, fun h1 h2 ⟨s, d, c, its, n, r, hv, e⟩ k => ⟨s, d, c, its, n, r, hv, k _ e⟩⟩
theorem lst_of_pool (ok : HOk P w H h) (hp : H p = some (poolO p)) : ∃ s d c, PoolV s d c ∧ HOk P w (upd H p (.lst [.int s, .int d, .int c])) h := by
  obtain ⟨⟨s, d, c, its, n, r, hv, e⟩, _, _⟩ := ok p _ hp
  exact ⟨s, d, c, hv, hok_retrack ok hp (fun _ => nofun) (fun _ => nofun) ⟨by show 3 ≤ sizeLine; decide, its, n, r, e⟩⟩
theorem un_retrack {fs ex : List Addr} {o u : HO} (un : Un fs ex H0 H h h') (hp : H p = some o) (nt : ∀ xs, o ≠ .tup xs) (nf : ∀ a b, o ≠ .frz a b) (nb : ∀ ps, o ≠ .tbl ps) : Un fs ex H0 (upd H p u) h h' where
  keep := un.keep
  slot := un.slot
  free := fun b ob e n hx => by
    have z := un.free b ob e n hx
    rw [upd_ne (fun q => by rw [q, hp] at z; cases z)]; exact z
  there := un.there
  tups := fun b xs e => by have z := un.tups b xs e; exact (upd_ne (ne_of z hp fun q => nt xs q.symm)).trans z
  frzs := fun b ob v e => by have z := un.frzs b ob v e; exact (upd_ne (ne_of z hp fun q => nf _ _ q.symm)).trans z
  tbls := fun b ps e => by
    obtain ⟨more, z⟩ := un.tbls b ps e
    exact ⟨more, (upd_ne (ne_of z hp fun q => nb _ q.symm)).trans z⟩
/-- the entry's abstract heap told otherwise at p -/
theorem un_retrack0 {fs ex : List Addr} {o u : HO} (un : Un fs ex (upd H0 p u) H h h') (hp : H0 p = some o) (nt : ∀ xs, o ≠ .tup xs) (nf : ∀ a b, o ≠ .frz a b) (nb : ∀ ps, o ≠ .tbl ps) : Un fs ex H0 H h h' := by
  have off : ∀ b, H0 b = none → upd H0 p u b = none := fun b n => by rw [upd_ne (fun q => by rw [q, hp] at n; cases n)]; exact n
  refine ⟨fun b ob e n => un.keep b ob e (off b n), fun b ob e n => un.slot b ob e (off b n), fun b ob e n => un.free b ob e (off b n), un.there, fun b xs e => un.tups b xs ?_, fun b ob v e => un.frzs b ob v ?_, fun b ps e => un.tbls b ps ?_⟩
  · exact (upd_ne (ne_of e hp fun q => nt xs q.symm)).trans e
  · exact (upd_ne (ne_of e hp fun q => nf _ _ q.symm)).trans e
  · exact (upd_ne (ne_of e hp fun q => nb _ q.symm)).trans e
theorem env_retrack {K : PySem.W.Frag} {mg : Str → Option Value} {base : Heap} {A : Around} {outer : List Env} {s : Shared} {o u : HO} (e0 : Env0 P w K mg base A outer s H) (hp : H p = some o) (ok : HOk P w (upd H p u) s.heap) : Env0 P w K mg base A outer s (upd H p u) := by
  have off : ∀ b, H b = none → upd H p u b = none := fun b n => by rw [upd_ne (fun q => by rw [q, hp] at n; cases n)]; exact n
  exact ⟨e0.frames, e0.mod, fun b ob e => ⟨(e0.bs b ob e).1, off b (e0.bs b ob e).2⟩, e0.bsz, e0.funs, fun b hb => off b (e0.frf b hb), ok, e0.bare⟩
end
section
variable {P : Program} {w : World} {K : PySem.W.Frag} {mg : Str → Option Value} {base : Heap} {k : Nat} {f : Addr} {fd : FuncData} {ps : List Str}
theorem draw_wrap (F : FnG P w K mg base CX0 k f fd ps spDrawC) (hl : ps.length = 2) : FnG P w K mg base CX0 k f fd ps spDraw := by
  refine ⟨fun vs H Q E ⟨p, m, e, _⟩ => by rw [e, hl]; rfl, fun A outer s H args us vs Q E hr hg e0 hb r hsp => ?_⟩
  obtain ⟨p, m, rfl, hp, m0, m1, q⟩ := hsp
  obtain ⟨s0, d0, c0, hv, ok1⟩ := lst_of_pool e0.hok hp
  refine codeAny_mono (F.run A outer s (upd H p (.lst [.int s0, .int d0, .int c0])) args us [.ref p, .int m] (fun v H1 => ∃ (r s' d' c' : Int), v = .int r ∧ 0 ≤ r ∧ r < m ∧ SameB p (upd H p (.lst [.int s0, .int d0, .int c0])) H1 ∧ H1 p = some (.lst [.int s', .int d', .int c']) ∧ PoolV s' d' c') E hr hg (env_retrack e0 hp ok1) hb r
    ⟨p, s0, d0, c0, m, rfl, upd_same, hv, m0, m1, fun r s' d' c' H' h0 h1 sb hq hv' => ⟨r, s', d', c', rfl, h0, h1, sb, hq, hv'⟩⟩) fun z s' hz => ?_
  cases z with
  | error e => exact hz
  | ok fl =>
    cases fl with
    | next => exact hz
    | brk => exact hz
    | cont => exact hz
    | ret u =>
      obtain ⟨v, H1, os, bare, un, hok1, rv, r, s2, d2, c2, rfl, h0, h1, sb, hq, hv2⟩ := hz
      refine ⟨.int r, upd H1 p (poolO p), os, bare, ?_, pool_of_lst hok1 hq hv2, rv, q r _ h0 h1 fun b o e => ?_⟩
      · exact un_retrack0 (un_retrack un hq (fun _ => nofun) (fun _ _ => nofun) fun _ => nofun) hp (fun _ => nofun) (fun _ _ => nofun) fun _ => nofun
      · by_cases z : b = p
        · subst z; rw [hp] at e; cases e; exact upd_same
        · rw [upd_ne z]; exact sb b o z ((upd_ne z).trans e)
theorem pool_wrap (F : FnG P w K mg base CX0 k f fd ps spPoolC) (hl : ps.length = 1) : FnG P w K mg base CX0 k f fd ps spPool := by
  refine ⟨fun vs H Q E ⟨n, e, _⟩ => by rw [e, hl]; rfl, fun A outer s H args us vs Q E hr hg e0 hb r hsp => ?_⟩
  obtain ⟨n, rfl, q⟩ := hsp
  refine codeAny_mono (F.run A outer s H args us [.int n] (fun v H1 => ∃ (p : Addr) (s' d' c' : Int), v = .ref p ∧ H p = none ∧ Same H H1 ∧ H1 p = some (.lst [.int s', .int d', .int c']) ∧ PoolV s' d' c') E hr hg e0 hb r
    ⟨n, rfl, fun p s' d' c' H' h0 sb hq hv' => ⟨p, s', d', c', rfl, h0, sb, hq, hv'⟩⟩) fun z s' hz => ?_
  cases z with
  | error e => exact hz
  | ok fl =>
    cases fl with
    | next => exact hz
    | brk => exact hz
    | cont => exact hz
    | ret u =>
      obtain ⟨v, H1, os, bare, un, hok1, rv, p, s2, d2, c2, rfl, h0, sb, hq, hv2⟩ := hz
      refine ⟨.ref p, upd H1 p (poolO p), os, bare, ?_, pool_of_lst hok1 hq hv2, rv, q p _ h0 (fun b o e => ?_) upd_same⟩
      · exact un_retrack un hq (fun _ => nofun) (fun _ _ => nofun) fun _ => nofun
      · rw [upd_ne (ne_of_none e h0)]; exact sb b o e
end
section
variable {P : Program} {w : World} {K : PySem.W.Frag} {mg : Str → Option Value} {base : Heap} {k : Nat} {x : Str} {st : Stmt} {ps : List Str}
theorem has_draw (F : Has P w K mg base CX0 k x st ps spDrawC) (hl : ps.length = 2) : Has P w K mg base CX0 k x st ps spDraw := by
  obtain ⟨fd, D, G⟩ := F.ex
  exact ⟨⟨fd, D, draw_wrap G hl⟩, F.glo⟩
theorem has_pool (F : Has P w K mg base CX0 k x st ps spPoolC) (hl : ps.length = 1) : Has P w K mg base CX0 k x st ps spPool := by
  obtain ⟨fd, D, G⟩ := F.ex
  exact ⟨⟨fd, D, pool_wrap G hl⟩, F.glo⟩
end
section
variable {J : It} {n : Nat} {G : Hp → Prop} {Y : Nat → Hp → V → Hp → Prop} {g : TG} {tt : TT} {te : TE} {vs : List Nat} {σ : L2.St} {H1 : Hp} {D : Addr} {Q : VK}
end
end TP

namespace TP
open PySem PySem.Spec PyProof.Rows L2
section
variable {J : It} {n : Nat} {G : Hp → Prop} {Y : Nat → Hp → V → Hp → Prop} {g : TG} {tt : TT} {te : TE} {tb : TS} {De : Ends} {wi : TI} {vs : List Nat} {σ : L2.St} {H H1 H2 : Hp} {D : Addr} {Q : VK} {Acc : Nat → List V → Hp → Prop} {K : PySem.W.Frag}
theorem w_for (h : wi σ H fun J H1 => ForOk J g tb De σ H1) : tFor wi g tb De σ H := h
theorem w_lc (h : wi σ H fun J H1 => ∀ D, H1 D = none → LcOk J g tt te vs σ H1 D Q) : tLc wi g tt te vs σ H Q := h
theorem w_yes {QB : Bool → Hp → Prop} (h : QB true H) : tYes σ H QB := h
theorem for_go (w : Walk J n G Y) (Pv : Nat → L2.St → Hp → Prop) (h0 : Pv 0 σ H) (hG : ∀ i σ H, i ≤ n → Pv i σ H → G H)
    (hs : ∀ i x σ H H', i < n → Pv i σ H → Y i H x H' → g x σ H' fun σ2 H2 => tb { De with nx := Pv (i + 1), ct := Pv (i + 1), bk := De.nx } σ2 H2) (hd : ∀ σ H, Pv n σ H → De.nx σ H) : ForOk J g tb De σ H := for_it w Pv h0 hG hs hd
theorem lc_go (w : Walk J n G Y) (Acc : Nat → List V → Hp → Prop) (hD : H1 D = none) (hG : ∀ H, Same H1 H → G H) (h0 : Acc 0 [] (upd H1 D (.lst [])))
    (hs : ∀ i x H H' acc, i < n → Same H1 H → H D = some (.lst acc) → acc.length ≤ i → Acc i acc H → Y i H x H' → g x (wipe σ vs) H' fun σ2 H2 => wipe σ2 vs = wipe σ vs ∧ tt σ2 H2 fun b H3 =>
      if b = true then te σ2 H3 fun y H4 => LcY H1 D Acc i y H4 else LcI H1 D Acc (i + 1) H3)
    (hd : ∀ acc H, Same H1 H → H D = some (.lst acc) → acc.length ≤ n → Acc n acc H → Q (.ref D) H) : LcOk J g tt te vs σ H1 D Q :=
  lc_it w (fun i H => LcI H1 D Acc i H) ⟨[], same_new hD, upd_same, Nat.le_refl _, h0⟩ (fun i H _ ⟨_, s, _⟩ => hG H s) (fun i x H H' hi ⟨acc, s, e, l, a⟩ hy => hs i x H H' acc hi s e l a hy) fun H ⟨acc, s, e, l, a⟩ => hd acc H s e l a
theorem lc_y {i : Nat} {y : V} {acc : List V} (hD : H1 D = none) (s : Same H1 H) (e : H D = some (.lst acc)) (l : acc.length ≤ i) (hi : i < 100000) (a : Acc (i + 1) (acc ++ [y]) (upd H D (.lst (acc ++ [y])))) : LcY H1 D Acc i y H :=
  ⟨acc, e, sz_lt (by omega), acc ++ [y], same_mut s hD, upd_same, by simp; omega, a⟩
theorem lc_skip {i : Nat} {acc : List V} (s : Same H1 H) (e : H D = some (.lst acc)) (l : acc.length ≤ i) (a : Acc (i + 1) acc H) : LcI H1 D Acc (i + 1) H := ⟨acc, s, e, Nat.le_succ_of_le l, a⟩
/-- each element by its place: scalars, or anything that does not lean on the heap -/
theorem lc_map (w : Walk J n G Y) (hn : n ≤ 100000) (f : Nat → V → Prop) (hD : H1 D = none) (hG : ∀ H, Same H1 H → G H)
    (hs : ∀ i x H H', i < n → Same H1 H → Y i H x H' → ∀ Qy : VK, (∀ y H4, Same H H4 → f i y → Qy y H4) → g x (wipe σ vs) H' fun σ2 H2 => wipe σ2 vs = wipe σ vs ∧ te σ2 H2 Qy)
    (hd : ∀ acc H, Same H1 H → H1 D = none → H D = some (.lst acc) → acc.length = n → (∀ i y, acc[i]? = some y → f i y) → Q (.ref D) H)
    (mono : ∀ {x σ H} {Q Q' : L2.St → Hp → Prop}, (∀ σ H, Q σ H → Q' σ H) → g x σ H Q → g x σ H Q') : LcOk J g tYes te vs σ H1 D Q := by
  let AccM : Nat → List V → Hp → Prop := fun i acc H => acc.length = i ∧ ∀ (j : Nat) (y : V), acc[j]? = some y → f j y
  refine lc_go w AccM hD hG ⟨rfl, fun j y e => by simp at e⟩ (fun i x H H' acc hi s e l a hy => ?_) fun acc H s e _ a => hd acc H s hD e a.1 a.2
  refine mono (fun σ2 H2 q => ⟨q.1, ?_⟩) (hs i x H H' hi s hy (fun y H4 => LcY H1 D AccM i y H4) fun y H4 s4 fy => lc_y (Acc := AccM) hD (s.trans s4) (s4 _ _ e) l (by omega) ⟨by simp [a.1], fun j z ej => ?_⟩)
  · exact w_yes (w_iteT q.2)
  · by_cases q : j < acc.length
    · rw [List.getElem?_append_left q] at ej; exact a.2 j z ej
    · rw [List.getElem?_append_right (Nat.le_of_not_lt q)] at ej
      have q2 : j = acc.length := by
        obtain ⟨h1, _⟩ := List.getElem?_eq_some_iff.mp ej
        simp at h1; omega
      subst q2
      simp at ej
      subst ej
      rw [a.1]; exact fy
theorem mono_gname {j : Nat} : ∀ {x σ H} {Q Q' : L2.St → Hp → Prop}, (∀ σ H, Q σ H → Q' σ H) → gName j x σ H Q → gName j x σ H Q' := fun h q => h _ _ q
variable {R : It → Hp → Prop} {ta : TA} {a : Addr} {xs : List V}
theorem w_iTup (h : te σ H (OnT K R)) : iTup K te σ H R := h
theorem w_iList (h : te σ H (OnL K R)) : iList K te σ H R := h
theorem w_iStr (h : te σ H (OnS R)) : iStr te σ H R := h
theorem w_iRng1 (h : ta σ H (OnR1 R)) : iRng1 ta σ H R := h
theorem w_iRng2 (h : ta σ H (OnR2 R)) : iRng2 ta σ H R := h
theorem w_iEnumT (h : ta σ H (OnE K R)) : iEnumT K ta σ H R := h
theorem w_onT (hs : SqT K H a xs) (h : R (Itt K a) H) : OnT K R (.ref a) H := ⟨a, rfl, ⟨xs, hs⟩, h⟩
theorem w_onL (hs : SqL K H a xs) (h : R (Itl K a) H) : OnL K R (.ref a) H := ⟨a, rfl, ⟨xs, hs⟩, h⟩
theorem w_onS {x : Str} (h : R (Its x) H) : OnS R (.str x) H := ⟨x, rfl, h⟩
theorem w_onR1 {j : Int} (h1 : -(2 ^ 62) ≤ j ∧ j < 2 ^ 62) (h : R (Itr 0 j.toNat) H) : OnR1 R [.int j] H := ⟨j, rfl, h1.1, h1.2, h⟩
theorem w_onE (hs : SqT K H a xs) (h : R (IteT K a) H) : OnE K R [.ref a] H := ⟨a, xs, rfl, hs, h⟩
end
section
variable {X : Cx}
theorem c_len : CallR X (.builtin "len") (rLenV X.K) := call_len
theorem c_abs : CallR X (.builtin "abs") rAbs := call_abs
theorem c_max2 (hc : X.calm = true) : CallR X (.builtin "max") rMx2 := call_max2 hc
theorem c_min2 (hc : X.calm = true) : CallR X (.builtin "min") rMn2 := call_min2 hc
theorem c_int1 : CallR X (.type "int") rInt1 := call_int1
theorem c_tuple : CallR X (.type "tuple") (rTupS X.K) := call_tuple_of
theorem c_divmod : CallR X (.builtin "divmod") rDivW := call_divmodW
theorem o_inSign : OpR X (compareOp .In) rInSign := op_in_sign
theorem o_notN : OpR X (compareOp .IsNot) rNotN := op_notN
theorem o_leS : OpR X (compareOp .LtE) rLeS := op_le_str
theorem o_addS : OpR X (binaryOp .Add) rAddS := op_add_str
theorem o_mulS : OpR X (binaryOp .Mult) rMulS := op_mul_str
end
section
variable {σ : L2.St} {H : Hp} {Q : VK} {K : PySem.W.Frag} {v x y : V} {a p : Addr} {xs ys : List V}
theorem w_lenT (hs : SqT K H a xs) (h : Q (.int (xs.length : Nat)) H) : rLenV K [.ref a] H Q := ⟨_, _, rfl, .inr ⟨xs, hs, rfl⟩, h⟩
theorem w_lenL (hs : SqL K H a xs) (h : Q (.int (xs.length : Nat)) H) : rLenV K [.ref a] H Q := ⟨_, _, rfl, .inl ⟨xs, hs, rfl⟩, h⟩
theorem w_lenS {z : Str} (hz : z.length ≤ sizeLine) (h : Q (.int (z.length : Nat)) H) : rLenV K [.str z] H Q := ⟨_, _, rfl, ⟨hz, rfl⟩, h⟩
theorem w_abs {i : Int} (h : Q (.int (if i < 0 then -i else i)) H) : rAbs [.int i] H Q := ⟨i, rfl, h⟩
theorem w_mx2 {i j : Int} (h : Q (.int (if j > i then j else i)) H) : rMx2 [.int i, .int j] H Q := ⟨i, j, rfl, h⟩
theorem w_mn2 {i j : Int} (h : Q (.int (if j < i then j else i)) H) : rMn2 [.int i, .int j] H Q := ⟨i, j, rfl, h⟩
theorem w_int1 {i : Int} (h : Q (.int i) H) : rInt1 [.int i] H Q := .inl ⟨i, rfl, h⟩
theorem w_tupL (hs : SqL K H a xs) (h : ∀ l, H l = none → Q (.ref l) (upd H l (.tup xs))) : rTupS K [.ref a] H Q := ⟨a, xs, rfl, .inl ⟨hs, h⟩⟩
theorem w_divW {i j : Int} (c : CDivP i j) (h : ∀ p, H p = none → Q (.ref p) (upd H p (.tup [.int (i / j), .int (i % j)]))) : rDivW [.int i, .int j] H Q := ⟨i, j, rfl, c, h⟩
theorem w_inSign {c : Nat} {z : Str} (h : Q (.bl (decide (c ∈ z.cps.toList))) H) : rInSign (.str ⟨#[c]⟩) (.str z) H Q := ⟨c, z, rfl, rfl, h⟩
theorem w_notInSign {c : Nat} {z : Str} (h : Q (.bl (!decide (c ∈ z.cps.toList))) H) : rNotInSign (.str ⟨#[c]⟩) (.str z) H Q := ⟨c, z, rfl, rfl, h⟩
theorem w_isN (h : Q (.bl (decide (x = .non))) H) : rIsN x .non H Q := ⟨rfl, h⟩
theorem w_notN (h : Q (.bl (!decide (x = .non))) H) : rNotN x .non H Q := ⟨rfl, h⟩
theorem w_isNN (h : Q (.bl true) H) : rIsN .non .non H Q := ⟨rfl, h⟩
theorem w_isNI {i : Int} (h : Q (.bl false) H) : rIsN (.int i) .non H Q := ⟨rfl, by have e : decide (V.int i = V.non) = false := decide_eq_false nofun; rw [e]; exact h⟩
theorem w_isNR (h : Q (.bl false) H) : rIsN (.ref a) .non H Q := ⟨rfl, by have e : decide (V.ref a = V.non) = false := decide_eq_false nofun; rw [e]; exact h⟩
theorem w_notNN (h : Q (.bl false) H) : rNotN .non .non H Q := ⟨rfl, h⟩
theorem w_notNI {i : Int} (h : Q (.bl true) H) : rNotN (.int i) .non H Q := ⟨rfl, by have e : decide (V.int i = V.non) = false := decide_eq_false nofun; rw [e]; exact h⟩
theorem w_notNR (h : Q (.bl true) H) : rNotN (.ref a) .non H Q := ⟨rfl, by have e : decide (V.ref a = V.non) = false := decide_eq_false nofun; rw [e]; exact h⟩
theorem w_ltS {i j : Str} (h : Q (.bl (decide (i.cps.toList < j.cps.toList))) H) : rLtS (.str i) (.str j) H Q := ⟨i, j, rfl, rfl, h⟩
theorem w_leS {i j : Str} (h : Q (.bl (!decide (j.cps.toList < i.cps.toList))) H) : rLeS (.str i) (.str j) H Q := ⟨i, j, rfl, rfl, h⟩
theorem w_addS {i j : Str} (hz : i.length + j.length ≤ sizeLine) (h : Q (.str (i ++ j)) H) : rAddS (.str i) (.str j) H Q := ⟨i, j, rfl, rfl, hz, h⟩
theorem w_mulS {z : Str} {i : Int} {n : Nat} (e : i = (n : Int)) (h1 : z.length * n ≤ 100000) (h2 : n ≤ 100000) (h : Q (.str (repS n z)) H) : rMulS (.str z) (.int i) H Q := ⟨z, n, rfl, by rw [e], h1, h2, h⟩
theorem w_all {bs : List Bool} (hs : SqL K H a (bs.map V.bl)) (h : Q (.bl (bs.all id)) H) : rAll K [.ref a] H Q := ⟨a, bs, rfl, hs, h⟩
theorem w_sortedS {ws : List Str} (hs : SqL K H a (ws.map V.str)) (hl : ws.length < 64) (h : ∀ (ys : List Str) (p : Addr), ys.Perm ws → sortedS ys = true → H p = none → Q (.ref p) (upd H p (.lst (ys.map V.str)))) : rSortedS K [.ref a] H Q := ⟨a, ws, rfl, hs, hl, h⟩
theorem w_cat {l b : Addr} {xs zs : List V} (h1 : H l = some (.lst xs)) (h2 : H b = some (.lst zs)) (hz : xs.length + zs.length ≤ sizeLine) (h : ∀ p, H p = none → Q (.ref p) (upd H p (.lst (xs ++ zs)))) : rCat (.ref l) (.ref b) H Q := ⟨l, b, xs, zs, rfl, rfl, h1, h2, hz, h⟩
theorem w_append {l : Addr} (h1 : H l = some (.lst xs)) (hz : xs.length < sizeLine) (h : Q .non (upd H l (.lst (xs ++ [y])))) : rAppend (.ref l) [y] H Q := ⟨l, xs, y, rfl, rfl, h1, hz, h⟩
theorem w_slL {lo hi : Option Int} (hs : SqL K H a xs) (h : ∀ p, H p = none → Q (.ref p) (upd H p (.lst (cutV xs lo hi)))) : rSlL K (.ref a) lo hi H Q := ⟨a, xs, rfl, hs, h⟩
theorem w_slS {z : Str} {lo hi : Option Int} (hz : z.length ≤ sizeLine) (h : Q (.str (cutS z lo hi)) H) : rSlS (.str z) lo hi H Q := ⟨z, rfl, hz, h⟩
theorem w_ixS {z : Str} {i : Int} {c : Nat} (hz : z.length ≤ sizeLine) (ha : atI z.cps.toList i = some c) (h : Q (.str ⟨#[c]⟩) H) : rIxS (.str z) (.int i) H Q := ⟨z, i, c, rfl, rfl, hz, ha, h⟩
theorem w_M1 {r : V → List V → Hp → VK → Prop} {to te : TE} (h : to σ H fun x H1 => (∃ a, x = .str a) ∧ te σ H1 fun y H2 => r x [y] H2 Q) : tM1 r to te σ H Q := h
theorem w_strx {z : Str} {C : Prop} (h : C) : (∃ a, V.str z = .str a) ∧ C := ⟨⟨z, rfl⟩, h⟩
theorem w_tyL {C : Prop} (h1 : H a = some (.lst xs)) (h : C) : tyV K "list" (.ref a) H ∧ C := ⟨.inl ⟨rfl, xs, SqL.of h1⟩, h⟩
theorem w_join {s : Str} {ws : List Str} (hs : SqL K H a (ws.map V.str)) (hz : (ws.map (·.length)).sum + ws.length * s.length ≤ 16777216) (h : Q (.str (Txt.join s ws)) H) : rJoin K (.str s) [.ref a] H Q := ⟨s, a, ws, rfl, rfl, .inl hs, hz, h⟩
theorem w_dget2 {td ty tx : TE} (h : td σ H fun x H1 => ∃ a, x = .ref a ∧ IsD H1 a ∧ ty σ H1 fun y H2 => tx σ H2 fun z H3 => ∃ o, DGet H3 a y o ∧ Q (o.getD z) H3) : tDGet2 td ty tx σ H Q := h
theorem w_isD {kvs : List (Key × V)} {k : Addr → Prop} (h1 : H a = some (.dK kvs)) (h : k a) : ∃ b, V.ref a = .ref b ∧ IsD H b ∧ k b := ⟨a, rfl, .inl ⟨kvs, .inl h1⟩, h⟩
theorem w_dgetk {kvs : List (Key × V)} {n : Str} {k : Option V → Prop} (h1 : H a = some (.dK kvs)) (h : k (valV kvs (.inr n))) : ∃ o, DGet H a (.str n) o ∧ k o := ⟨_, DGet.k (k := .inr n) h1, h⟩
theorem w_dput {td ty tv : TE} {De : Ends} (h : tv σ H fun v H1 => td σ H1 fun x H2 => ty σ H2 fun y H3 => ∃ a H4, x = .ref a ∧ DPut H3 a y v H4 ∧ De.nx σ H4) : sDPut td ty tv De σ H := h
theorem w_dputk {kvs : List (Key × V)} {n : Str} {k : Hp → Prop} (h1 : H a = some (.dK kvs)) (hl : kvs.length < sizeLine) (h : k (upd H a (.dK (putK kvs (.inr n) v)))) : ∃ b H4, V.ref a = .ref b ∧ DPut H b (.str n) v H4 ∧ k H4 := ⟨a, _, rfl, DPut.k (k := .inr n) h1 hl, h⟩
end
end TP

namespace TP
open PySem PySem.Spec PyProof.Rows L2
section
variable {σ : L2.St} {H : Hp} {Q : VK} {QO : Option Int → Hp → Prop} {tr tk : TA} {te : TE} {D : Ends} {sp : Sp} {E : XK}
theorem w_p2 {k : V → V → Prop} {a b : V} (h : k a b) : Par2 k [a, b] := ⟨a, b, rfl, h⟩
theorem w_p3 {k : V → V → V → Prop} {a b c : V} (h : k a b c) : Par3 k [a, b, c] := ⟨a, b, c, rfl, h⟩
theorem w_tpar {i j : Nat} (h : tr σ H fun vs H1 => Par2 (fun v w => D.nx ((σ.set i (some v)).set j (some w)) H1) vs) : tPar i j tr D σ H := h
theorem w_tpar3 {i j l : Nat} (h : tr σ H fun vs H1 => Par3 (fun u v w => D.nx (((σ.set i (some u)).set j (some v)).set l (some w)) H1) vs) : tPar3 i j l tr D σ H := h
theorem w_intC {i : Int} {k : Int → Prop} (h : k i) : IntC (.int i) k := ⟨i, rfl, h⟩
theorem w_tpart (h : te σ H fun x H1 => IntC x fun i => QO (some i) H1) : tPart te σ H QO := h
theorem w_kwC {n m : Nat} {g : {α : Type} → List α → List α → List α} {vs zs : List V} {k : List V → Prop} (h1 : vs.length = n) (h2 : zs.length = m) (h : k (g vs zs)) : KwC n m g vs zs k := ⟨h1, h2, h⟩
theorem w_tcallW {n m : Nat} {g : {α : Type} → List α → List α → List α} (h : tr σ H fun vs H1 => tk σ H1 fun zs H2 => KwC n m g vs zs fun as => sp as H2 Q E) : tCallW sp n m g E tr tk σ H Q := h
end
end TP

namespace TP
open PySem PySem.Spec PyProof.Rows L2
theorem acc_map {α β : Type} {acc : List β} {l : List α} {f : α → β} (hl : acc.length = l.length) (hf : ∀ (i : Nat) (y : β), acc[i]? = some y → ∃ a, l[i]? = some a ∧ y = f a) : acc = l.map f := by
  refine List.ext_getElem? fun i => ?_
  rw [List.getElem?_map]
  cases e : acc[i]? with
  | some y =>
    obtain ⟨a, h1, h2⟩ := hf i y e
    rw [h1, h2]; rfl
  | none =>
    rw [List.getElem?_eq_none (by rw [← hl]; exact List.getElem?_eq_none_iff.mp e)]; rfl
theorem all_map_id {α : Type} (f : α → Bool) (l : List α) : (l.map f).all id = l.all f := by
  rw [List.all_map]; rfl
theorem mono_gpair {K : PySem.W.Frag} {i j : Nat} : ∀ {x : V} {σ : L2.St} {H : Hp} {Q Q' : L2.St → Hp → Prop}, (∀ σ H, Q σ H → Q' σ H) → gTup K 2 (gCons (gName i) (gCons (gName j) gNil)) x σ H Q → gTup K 2 (gCons (gName i) (gCons (gName j) gNil)) x σ H Q' :=
  fun h ⟨a, xs, e, hs, hn, v, r, e1, w, r2, e2, e3, q⟩ => ⟨a, xs, e, hs, hn, v, r, e1, w, r2, e2, e3, h _ _ q⟩
theorem take_succ_snoc {α : Type} : ∀ {l : List α} {i : Nat} {x : α}, l[i]? = some x → l.take (i + 1) = l.take i ++ [x]
  | [], i, x, h => by simp at h
  | a :: l, 0, x, h => by simp at h; subst h; rfl
  | a :: l, i + 1, x, h => by
    have ih := take_succ_snoc (l := l) (i := i) (x := x) (by simpa using h)
    rw [List.take_succ_cons, ih]; rfl
theorem isi_int (d : PyData) : kitB (tyD d) "int" = some (isIntD d) := by
  cases d
  · exact (by decide +kernel : kitB "NoneType" "int" = some false)
  · exact (by decide +kernel : kitB "bool" "int" = some true)
  · exact (by decide +kernel : kitB "int" "int" = some true)
  · exact (by decide +kernel : kitB "str" "int" = some false)
  · exact (by decide +kernel : kitB "list" "int" = some false)
  · exact (by decide +kernel : kitB "tuple" "int" = some false)
  · exact (by decide +kernel : kitB "dict" "int" = some false)
theorem isi_bool (d : PyData) : kitB (tyD d) "bool" = some (isBoolD d) := by
  cases d
  · exact (by decide +kernel : kitB "NoneType" "bool" = some false)
  · exact (by decide +kernel : kitB "bool" "bool" = some true)
  · exact (by decide +kernel : kitB "int" "bool" = some false)
  · exact (by decide +kernel : kitB "str" "bool" = some false)
  · exact (by decide +kernel : kitB "list" "bool" = some false)
  · exact (by decide +kernel : kitB "tuple" "bool" = some false)
  · exact (by decide +kernel : kitB "dict" "bool" = some false)
theorem isi_str (d : PyData) : kitB (tyD d) "str" = some (isStrD d) := by
  cases d
  · exact (by decide +kernel : kitB "NoneType" "str" = some false)
  · exact (by decide +kernel : kitB "bool" "str" = some false)
  · exact (by decide +kernel : kitB "int" "str" = some false)
  · exact (by decide +kernel : kitB "str" "str" = some true)
  · exact (by decide +kernel : kitB "list" "str" = some false)
  · exact (by decide +kernel : kitB "tuple" "str" = some false)
  · exact (by decide +kernel : kitB "dict" "str" = some false)
theorem isi_tup (d : PyData) : kitB (tyD d) "tuple" = some (isTupD d) := by
  cases d
  · exact (by decide +kernel : kitB "NoneType" "tuple" = some false)
  · exact (by decide +kernel : kitB "bool" "tuple" = some false)
  · exact (by decide +kernel : kitB "int" "tuple" = some false)
  · exact (by decide +kernel : kitB "str" "tuple" = some false)
  · exact (by decide +kernel : kitB "list" "tuple" = some false)
  · exact (by decide +kernel : kitB "tuple" "tuple" = some true)
  · exact (by decide +kernel : kitB "dict" "tuple" = some false)
theorem szDs_get : ∀ {ds : List PyData} {i : Nat} {d : PyData}, szDs ds = true → ds[i]? = some d → szD d = true
  | [], i, d, _, e => by simp at e
  | a :: r, 0, d, h, e => by
    simp at e; subst e
    exact (Bool.and_eq_true_iff.mp (show (szD a && szDs r) = true from h)).1
  | a :: r, i + 1, d, h, e => szDs_get (i := i) (Bool.and_eq_true_iff.mp (show (szD a && szDs r) = true from h)).2 (by simpa using e)
theorem mem_letters (c : Nat) : decide (c ∈ letters.cps.toList) = isLet c := by
  have e : letters.cps.toList = [97, 98, 99, 100, 101, 102, 103, 104, 105, 106, 107, 108, 109, 110, 111, 112, 113, 114, 115, 116, 117, 118, 119, 120, 121, 122] := by decide +kernel
  rw [e]
  unfold isLet
  by_cases h : 97 ≤ c ∧ c ≤ 122
  · rw [decide_eq_true h.1, decide_eq_true h.2]
    refine decide_eq_true ?_
    simp only [List.mem_cons, List.not_mem_nil, or_false]
    omega
  · have : (decide (97 ≤ c) && decide (c ≤ 122)) = false := by
      rw [Bool.and_eq_false_iff, decide_eq_false_iff_not, decide_eq_false_iff_not]; omega
    rw [this]
    refine decide_eq_false ?_
    simp only [List.mem_cons, List.not_mem_nil, or_false]
    omega
theorem firstBad_some {ds : List PyData} {m : Int} {i : Nat} (hi : i < ds.length) (hb : badAt ds m i = true) (hp : ∀ j, j < i → badAt ds m j = false) : firstBad ds m = some i := by
  unfold firstBad
  rw [List.find?_range_eq_some]
  exact ⟨hb, List.mem_range.mpr hi, fun j hj => by rw [hp j hj]; rfl⟩
theorem firstBad_none {ds : List PyData} {m : Int} (hp : ∀ j, j < ds.length → badAt ds m j = false) : firstBad ds m = none := by
  unfold firstBad
  rw [List.find?_eq_none]
  intro j hj
  rw [hp j (List.mem_range.mp hj)]
  exact Bool.false_ne_true
theorem pairD_run {p : Str × Int} (h1 : isName p.1 = true) (h2 : 1 ≤ p.2) : runD (pairD p) = true := by
  show (isName p.1 && decide (1 ≤ p.2)) = true
  rw [h1, decide_eq_true h2]; rfl
theorem bag_good {ps : Bag} (h : BagOk ps) {m : Int} (hm : (ps.length : Int) ≤ m) : firstBad (ps.map pairD) m = none := by
  refine firstBad_none fun i hi => ?_
  rw [List.length_map] at hi
  have e : (ps.map pairD).getD i .none = pairD ps[i] := by simp [List.getD, hi]
  unfold badAt
  rw [e, decide_eq_false (by omega), pairD_run (h.nam _ (List.getElem_mem hi)) (h.pos _ (List.getElem_mem hi))]
  by_cases h0 : 0 < i
  · have e2 : (ps.map pairD).getD (i - 1) .none = pairD (ps[i - 1]'(by omega)) := by simp [List.getD, show i - 1 < ps.length by omega]
    rw [e2, decide_eq_true h0]
    have q := List.pairwise_iff_getElem.mp h.asc (i - 1) i (by omega) hi (by omega)
    have q2 : ltS (nmD (pairD (ps[i - 1]'(by omega)))) (nmD (pairD ps[i])) := q
    rw [decide_eq_true q2]; rfl
  · rw [decide_eq_false h0]; rfl
theorem szD_bag {ps : Bag} (h : ∀ p ∈ ps, p.1.length ≤ 100000) : szDs (ps.map pairD) = true := by
  induction ps with
  | nil => rfl
  | cons p r ih =>
    have h1 := h p List.mem_cons_self
    show (szD (pairD p) && szDs (r.map pairD)) = true
    rw [ih fun q hq => h q (List.mem_cons_of_mem _ hq)]
    simp [szD, szDs, pairD, h1]
theorem isName_len {x : Str} (h : isName x = true) : 0 < x.length ∧ x.length < 9 := by
  unfold isName at h
  have h1 := Bool.and_eq_true_iff.mp h
  have h2 := Bool.and_eq_true_iff.mp h1.2
  exact ⟨of_decide_eq_true h1.1, of_decide_eq_true h2.1⟩
theorem isName_let {x : Str} (h : isName x = true) : x.cps.toList.all isLet = true := by
  unfold isName at h
  exact (Bool.and_eq_true_iff.mp (Bool.and_eq_true_iff.mp h).2).2
theorem BagOk.sz {ps : Bag} (h : BagOk ps) : szDs (ps.map pairD) = true := szD_bag fun p hp => by have := (isName_len (h.nam p hp)).2; omega
section
variable {K : PySem.W.Frag} {H : Hp}
theorem pair_inv {v : V} {p : Str × Int} (h : Dp K H v (pairD p)) : ∃ a, v = .ref a ∧ SqT K H a [.str p.1, .int p.2] := by
  obtain ⟨a, xs, rfl, hs, hd⟩ := dp_tup_inv h
  refine ⟨a, rfl, ?_⟩
  cases hd with
  | cons h1 r =>
    cases r with
    | cons h2 r2 =>
      cases r2
      rw [dp_str_inv h1, dp_int_inv h2] at hs
      exact hs
theorem pair_mk {a : Addr} {n : Str} {c : Int} (h : SqT K H a [.str n, .int c]) : Dp K H (.ref a) (pairD (n, c)) := .tup h (.cons (.str n) (.cons (.int c) .nil))
theorem bag_inv {v : V} {ps : Bag} (h : Dp K H v (bagD ps)) : ∃ a xs, v = .ref a ∧ SqT K H a xs ∧ DpAll K H xs (ps.map pairD) ∧ xs.length = ps.length := by
  obtain ⟨a, xs, rfl, hs, hd⟩ := dp_tup_inv h
  exact ⟨a, xs, rfl, hs, hd, by rw [dps_len hd, List.length_map]⟩
theorem bag_get {xs : List V} {ps : Bag} {i : Nat} {x : V} (hd : DpAll K H xs (ps.map pairD)) (e : xs[i]? = some x) : ∃ p b, ps[i]? = some p ∧ x = .ref b ∧ SqT K H b [.str p.1, .int p.2] := by
  obtain ⟨d, h1, h2⟩ := dps_get hd e
  rw [List.getElem?_map] at h1
  cases q : ps[i]? with
  | none => rw [q] at h1; cases h1
  | some p =>
    rw [q] at h1
    have e2 : pairD p = d := Option.some.inj h1
    subst e2
    obtain ⟨b, e3, h3⟩ := pair_inv h2
    exact ⟨p, b, rfl, e3, h3⟩
end
theorem kv_find (t : Bag) (n : Str) : valV (kvOf t) (Sum.inr n) = ((t.find? fun p => decide (p.1 = n)).map fun p => V.int p.2) := by
  unfold valV kvOf
  induction t with
  | nil => rfl
  | cons p r ih =>
    rw [List.map_cons, List.find?_cons, List.find?_cons]
    have e : decide ((Sum.inr p.1 : Key) = Sum.inr n) = decide (p.1 = n) := key_rr p.1 n
    dsimp only
    rw [e]
    cases decide (p.1 = n)
    · exact ih
    · rfl
theorem kv_get (t : Bag) (n : Str) : (valV (kvOf t) (Sum.inr n)).getD (.int 0) = .int (getT t n) := by
  rw [kv_find]
  unfold getT
  cases t.find? fun p => decide (p.1 = n) <;> rfl
theorem kv_put (t : Bag) (n : Str) (c : Int) : putK (kvOf t) (Sum.inr n) (.int c) = kvOf (putT t n c) := by
  have e1 : ((kvOf t).any fun kv => decide (kv.1 = Sum.inr n)) = t.any fun p => decide (p.1 = n) := by
    unfold kvOf
    rw [List.any_map]
    congr 1
    funext p
    exact key_rr p.1 n
  unfold putK putT
  rw [e1]
  split
  · unfold kvOf
    rw [List.map_map, List.map_map]
    congr 1
    funext p
    by_cases h : p.1 = n
    · simp [h]
    · simp [h, show ¬ ((Sum.inr p.1 : Key) = Sum.inr n) from fun q => h (Sum.inr.inj q)]
  · unfold kvOf
    rw [List.map_append]
    rfl
theorem kv_len (t : Bag) : (kvOf t).length = t.length := by unfold kvOf; rw [List.length_map]
theorem putT_len (t : Bag) (n : Str) (c : Int) : (putT t n c).length ≤ t.length + 1 := by
  unfold putT
  split
  · rw [List.length_map]; omega
  · simp
theorem foldl_addT_len : ∀ (ps t : Bag), (ps.foldl addT t).length ≤ t.length + ps.length
  | [], t => by simp
  | p :: r, t => by
    have h1 := foldl_addT_len r (addT t p)
    have h2 := putT_len t p.1 (getT t p.1 + p.2)
    simp only [List.foldl_cons, List.length_cons]
    unfold addT at h1 ⊢
    omega
theorem tabOf_len (ps : Bag) : (tabOf ps).length ≤ ps.length := by have := foldl_addT_len ps []; simpa [tabOf] using this
theorem tabOf_snoc (ps : Bag) (p : Str × Int) : tabOf (ps ++ [p]) = addT (tabOf ps) p := by unfold tabOf; rw [List.foldl_append]; rfl
theorem getT_put (t : Bag) (n m : Str) (c : Int) : getT (putT t n c) m = if m = n then c else getT t m := by
  have h := kv_get (putT t n c) m
  rw [← kv_put, valV_put] at h
  have h2 := kv_get t m
  by_cases e : m = n
  · subst e
    rw [if_pos rfl] at h ⊢
    exact (V.int.inj h).symm
  · rw [if_neg (fun q => e (Sum.inr.inj q))] at h
    rw [if_neg e]
    rw [h2] at h
    exact (V.int.inj h).symm
theorem getT_foldl : ∀ (ps t : Bag) (n : Str), getT (ps.foldl addT t) n = getT t n + cntC ps n
  | [], t, n => by simp [cntC]
  | p :: r, t, n => by
    rw [List.foldl_cons, getT_foldl r (addT t p) n]
    unfold addT
    rw [getT_put]
    unfold cntC
    rw [List.filter_cons]
    by_cases e : n = p.1
    · subst e
      rw [if_pos rfl, if_pos (decide_eq_true rfl), List.map_cons, List.sum_cons]
      omega
    · rw [if_neg e, if_neg (by simpa using fun q : p.1 = n => e q.symm)]
theorem getT_tabOf (ps : Bag) (n : Str) : getT (tabOf ps) n = cntC ps n := by
  unfold tabOf
  rw [getT_foldl]
  have : getT [] n = 0 := rfl
  omega
end TP

namespace TP
open PySem PySem.Spec PyProof.Rows L2
theorem str_ext {x y : Str} (h : x.cps.toList = y.cps.toList) : x = y := by
  cases x; cases y
  congr 1
  exact Array.ext' h
theorem app_list (x y : Str) : (x ++ y).cps.toList = x.cps.toList ++ y.cps.toList := by
  show (x.cps ++ y.cps).toList = _
  simp
theorem len_list (x : Str) : x.length = x.cps.toList.length := by show x.cps.size = _; simp
theorem join0_list : ∀ ys : List Str, (Str.join (Str.ofString "") ys).cps.toList = (ys.map fun y => y.cps.toList).flatten
  | [] => rfl
  | [x] => by simp [Str.join]
  | x :: y :: r => by
    have ih := join0_list (y :: r)
    show (x ++ Str.ofString "" ++ Str.join (Str.ofString "") (y :: r)).cps.toList = _
    rw [app_list, app_list, ih]
    have e : (Str.ofString "").cps.toList = [] := by decide +kernel
    rw [e]
    simp
theorem txt_join_eq (s : Str) (ys : List Str) : Txt.join s ys = Str.join s ys := TL.join_eq s ys
theorem isName_of {x : Str} (h0 : 0 < x.length) (h1 : x.length < 9) (h2 : lets x) : isName x = true := by
  unfold isName
  rw [decide_eq_true h0, decide_eq_true h1, List.all_eq_true.mpr h2]; rfl
theorem wordA_all : ∀ b, b < 15 → ((List.range 15).map (wordA b)).Nodup ∧ ∀ w ∈ (List.range 15).map (wordA b), isName w = true := by decide +kernel
theorem wordB_all : ∀ b, b < 15 → ((List.range 15).map (wordB b)).Nodup ∧ ∀ w ∈ (List.range 15).map (wordB b), isName w = true := by decide +kernel
theorem range_prefix {α : Type} {f : Nat → α} {n m : Nat} (h : n ≤ m) : (List.range n).map f = ((List.range m).map f).take n := by
  rw [← List.map_take, List.take_range, Nat.min_eq_left h]
theorem words_of {f : Nat → Str} {n : Nat} (hn : n ≤ 15) (h : ((List.range 15).map f).Nodup ∧ ∀ w ∈ (List.range 15).map f, isName w = true) : ((List.range n).map f).Nodup ∧ ∀ w ∈ (List.range n).map f, isName w = true := by
  rw [range_prefix hn]
  exact ⟨h.1.sublist (List.take_sublist _ _), fun w hw => h.2 w (List.mem_of_mem_take hw)⟩
theorem wordC_all {b : Nat} {l r : List Nat} (hb : b < 15) (hl : ∀ c ∈ l, isLet c = true) (hr : ∀ c ∈ r, isLet c = true) (hn : l.length + r.length ≤ 7) : ((List.range 15).map (wordC b l r)).Nodup ∧ ∀ w ∈ (List.range 15).map (wordC b l r), isName w = true := by
  constructor
  · unfold List.Nodup
    rw [List.pairwise_map]
    refine List.Pairwise.imp_of_mem ?_ List.nodup_range
    intro i j hi hj hne e
    apply hne
    have hi' := List.mem_range.mp hi
    have hj' := List.mem_range.mp hj
    have e2 : (l ++ (97 + (b + 5 * i) % 26) :: r) = (l ++ (97 + (b + 5 * j) % 26) :: r) := by
      have := congrArg (fun z : Str => z.cps.toList) e
      simpa [wordC] using this
    have e3 := List.append_cancel_left e2
    injection e3 with e4 _
    omega
  · intro w hw
    obtain ⟨i, _, rfl⟩ := List.mem_map.mp hw
    have e : (wordC b l r i).cps.toList = l ++ (97 + (b + 5 * i) % 26) :: r := by simp [wordC]
    refine isName_of ?_ ?_ fun c hc => ?_
    · rw [len_list, e]; simp; omega
    · rw [len_list, e]; simp; omega
    · rw [e] at hc
      rcases List.mem_append.mp hc with h | h
      · exact hl c h
      · rcases List.mem_cons.mp h with h | h
        · subst h
          unfold isLet
          rw [decide_eq_true (by omega), decide_eq_true (by omega)]; rfl
        · exact hr c h
theorem words_mk {f : Nat → Str} {n : Nat} (hn : n ≤ 15) (h : ((List.range 15).map f).Nodup ∧ ∀ w ∈ (List.range 15).map f, isName w = true) : WordsOk ((List.range n).map f) n :=
  ⟨by simp, (words_of hn h).1, (words_of hn h).2⟩
theorem at_of' {α : Type} {xs : List α} {z : Int} {j : Nat} {v : α} (e : z = (j : Int)) (h : xs[j]? = some v) : atI xs z = some v := by rw [e]; exact atI_nat h
theorem letters_at {i : Int} (h0 : 0 ≤ i) (h1 : i < 26) : atI letters.cps.toList i = some (97 + i.toNat) := by
  have all : ∀ j : Nat, j < 26 → letters.cps.toList[j]? = some (97 + j) := by decide +kernel
  exact at_of' (j := i.toNat) (by omega) (all i.toNat (by omega))
theorem tri : ∀ a b : List Nat, a < b ∨ a = b ∨ b < a
  | [], [] => .inr (.inl rfl)
  | [], _ :: _ => .inl (List.nil_lt_cons _ _)
  | _ :: _, [] => .inr (.inr (List.nil_lt_cons _ _))
  | a :: r, b :: t => by
    rcases Nat.lt_trichotomy a b with h | h | h
    · exact .inl (List.cons_lt_cons_iff.mpr (.inl h))
    · subst h
      rcases tri r t with h | h | h
      · exact .inl (List.cons_lt_cons_iff.mpr (.inr ⟨rfl, h⟩))
      · exact .inr (.inl (by rw [h]))
      · exact .inr (.inr (List.cons_lt_cons_iff.mpr (.inr ⟨rfl, h⟩)))
    · exact .inr (.inr (List.cons_lt_cons_iff.mpr (.inl h)))
theorem ltS_trans {a b c : Str} (h : ltS a b) (h2 : ltS b c) : ltS a c := List.lt_trans h h2
theorem ltS_tri (a b : Str) : ltS a b ∨ a = b ∨ ltS b a := by
  rcases tri a.cps.toList b.cps.toList with h | h | h
  · exact .inl h
  · exact .inr (.inl (str_ext h))
  · exact .inr (.inr h)
theorem ltS_asymm {a b : Str} (h : ltS a b) : ¬ ltS b a := fun h2 => ltS_irrefl _ (ltS_trans h h2)
theorem rising_asc : ∀ (l : List Str) (p : Str), risingS p l = true → (p :: l).Nodup → (p :: l).Pairwise ltS
  | [], p, _, _ => List.pairwise_singleton _ _
  | x :: r, p, h, nd => by
    have h' := Bool.and_eq_true_iff.mp (show (!ltCps x.cps.toList p.cps.toList && risingS x r) = true from h)
    have nd' := List.nodup_cons.mp nd
    have ih := rising_asc r x h'.2 nd'.2
    have nlt : ¬ ltS x p := fun q => by
      have e : ltCps x.cps.toList p.cps.toList = true := by rw [ltCps_eq]; exact decide_eq_true q
      rw [e] at h'
      exact Bool.false_ne_true h'.1
    have px : ltS p x := by
      rcases ltS_tri p x with q | q | q
      · exact q
      · exact absurd (by rw [q]; exact List.mem_cons_self) nd'.1
      · exact absurd q nlt
    rw [List.pairwise_cons]
    refine ⟨fun z hz => ?_, ih⟩
    rcases List.mem_cons.mp hz with e | hz
    · rw [e]; exact px
    · exact ltS_trans px ((List.pairwise_cons.mp ih).1 z hz)
theorem sorted_asc : ∀ {ys : List Str}, sortedS ys = true → ys.Nodup → ys.Pairwise ltS
  | [], _, _ => .nil
  | x :: r, h, nd => rising_asc r x h nd
theorem asc_take {ys : List Str} (asc : ys.Pairwise ltS) {i : Nat} (hi : i < ys.length) {z : Str} (hz : z ∈ ys.take i) : ltS z ys[i] := by
  obtain ⟨j, hj, e⟩ := List.mem_iff_getElem.mp hz
  rw [List.getElem_take] at e
  rw [List.length_take] at hj
  subst e
  exact List.pairwise_iff_getElem.mp asc j i (by omega) hi (by omega)
end TP

namespace TP
open PySem PySem.Spec PyProof.Rows L2
section
variable {X : Cx} (K : PySem.W.Frag)
theorem k_ixL (h : X.K = K := by rfl) : IxR X (rIxL K) := by subst h; exact ix_list
theorem k_ixT (h : X.K = K := by rfl) : IxR X (rIxT K) := by subst h; exact ix_tup
theorem k_slL (h : X.K = K := by rfl) : SlR X (rSlL K) := by subst h; exact sl_list
theorem k_slT (h : X.K = K := by rfl) : SlR X (rSlA K) := by subst h; exact sl_tupA
theorem k_catT (h : X.K = K := by rfl) : OpR X (binaryOp .Add) (rCatA K) := by subst h; exact op_catA
theorem k_eqD (hu : X.A.units + 64 < cLine) (h : X.K = K := by rfl) : OpR X (compareOp .Eq) (rEqD K) := by subst h; exact op_eqD hu
theorem k_len (h : X.K = K := by rfl) : CallR X (.builtin "len") (rLenV K) := by subst h; exact c_len
theorem k_tuple (h : X.K = K := by rfl) : CallR X (.type "tuple") (rTupS K) := by subst h; exact c_tuple
theorem k_all (hc : X.calm = true) (h : X.K = K := by rfl) : CallR X (.builtin "all") (rAll K) := by subst h; exact cr_all hc
theorem k_min (hc : X.calm = true) (h : X.K = K := by rfl) : CallR X (.builtin "min") (rMin K) := by subst h; exact cr_min hc
theorem k_sortedS (h : X.K = K := by rfl) : CallR X (.builtin "sorted") (rSortedS K) := by subst h; exact cr_sortedS
theorem k_repr (hg : X.A.guards = some []) (hu : X.A.units + 64 < cLine) (h : X.K = K := by rfl) : CallR X (.builtin "repr") (rRepr K) := by subst h; exact call_repr hg hu
theorem k_isi (h : X.K = K := by rfl) : CallR X (.builtin "isinstance") (rIsi K) := by subst h; exact call_isi
variable {o e a b : Expr} {to te ta tb : TE} {apos cpos pos p tpos : Pos} {es : List Expr} {t : TA} {tg : Expr} {rest : List Expr}
theorem k_join (ho : PE X o to) (he : PE X e te) (h : X.K = K := by rfl) (hs : starEach [e] X.env = [(false, eval e X.env)] := by rfl) (hbase : attributeBase o "join" X.env (eval o X.env) = eval o X.env := by rfl) (hline : (apos.endLine == pos.line) = true := by rfl) :
    PE X (.Call (.Attribute o "join" apos) [e] [] pos) (tM1 (rJoin K) to te) := by subst h; exact pe_join ho he hs hbase hline
theorem k_bm {T id : String} {name : Str} {r : V → List V → Hp → VK → Prop} (pa : PlainAttrs T) (slot : Slot T name id) (hty : typeOf (.builtin id) = pure (.type "method_descriptor")) (hm : MtR X id r) (ho : PE X o to) (ha : PA X (e :: es) t) (h : X.K = K := by rfl)
    (hbase : attributeBase o name X.env (eval o X.env) = eval o X.env := by rfl)
    (hfew : ((backTo cpos (starEach (e :: es) X.env)).all (fun x => !x.1) && (backToKw cpos (keywordEach [] X.env)).all (fun x => x.1.isSome) && decide ((e :: es).length + ([] : List Keyword).length + (if ([] : List Keyword).isEmpty then 0 else 1) < 30)) = true := by rfl)
    (hline : (apos.endLine == cpos.line) = true := by rfl) (hs : starEach (e :: es) X.env = (false, eval e X.env) :: starEach es X.env := by rfl) (hplain : (backTo cpos (starEach es X.env)).any (·.1) = false := by rfl) :
    PE X (.Call (.Attribute o name apos) (e :: es) [] cpos) (tBM K T r to t) := by subst h; exact pe_bm pa slot hty hm ho ha hbase hfew hline hs hplain
theorem k_fld {f : Str} (he : PE X e ta) (hb : attributeBase e f X.env (eval e X.env) = eval e X.env) (h : X.K = K := by rfl) : PE X (.Attribute e f pos) (tFld K ta f) := by subst h; exact pe_fld he hb
theorem k_orT (ha : PE X a ta) (hb : PE X (.BoolOp .Or (b :: rest) pos) tb) (h : X.K = K := by rfl) : PE X (.BoolOp .Or (a :: b :: rest) pos) (tOrT K ta tb) := by subst h; exact pe_orT ha hb
theorem k_gtup {k n : Nat} {t : TGs} (hc : X.calm = true) (hg : PGs X es t) (h : X.K = K := by rfl) (hn : (assignEach es X.env).length = n := by rfl) (hst : (assignEach es X.env).findIdx? (·.1) = none := by rfl) : PG X (.Tuple es k pos) (gTup K n t) := by subst h; exact pg_tup hc hg hn hst
theorem k_iList (hl : PE X e te) (h : X.K = K := by rfl) : PI X tg e (iList K te) := by subst h; exact pi_list hl
theorem k_iTup (hl : PE X e te) (h : X.K = K := by rfl) : PI X tg e (iTup K te) := by subst h; exact pi_tup hl
theorem k_iEnumT {elts : List Expr} {kk : Nat} (hg : Gl X "enumerate") (hm : X.mg "enumerate" = none) (ha : PA X [e] t) (h : X.K = K := by rfl) (hs : starEach [e] X.env = [(false, eval e X.env)] := by rfl) :
    PI X (.Tuple elts kk tpos) (.Call (.Name "enumerate" p) [e] [] pos) (iEnumT K t) := by subst h; exact pi_enumT hg hm ha hs
end
section
variable {J : It} {n : Nat} {G : Hp → Prop} {Y : Nat → Hp → V → Hp → Prop} {g : TG} {tt : TT} {te : TE} {vs : List Nat} {σ : L2.St} {H1 : Hp} {D : Addr} {Q : VK} {α : Type}
end
section
variable {J : It} {n : Nat} {G : Hp → Prop} {Y : Nat → Hp → V → Hp → Prop} {g : TG} {te : TE} {vs : List Nat} {σ : L2.St} {H1 : Hp} {D : Addr} {Q : VK} {K : PySem.W.Frag}
theorem flatDs_snoc : ∀ {ds : List PyData} {d : PyData}, flatDs ds = true → flatD d = true → flatDs (ds ++ [d]) = true
  | [], d, _, h => by show (flatD d && true) = true; rw [h]; rfl
  | a :: r, d, h, h2 => by
    have h' := Bool.and_eq_true_iff.mp (show (flatD a && flatDs r) = true from h)
    show (flatD a && flatDs (r ++ [d])) = true
    rw [h'.1, flatDs_snoc h'.2 h2]; rfl
theorem lc_dat (K : PySem.W.Frag) (w : Walk J n G Y) (hn : n ≤ 100000) (R : Nat → PyData → Prop) (hD : H1 D = none) (hG : ∀ H, Same H1 H → G H)
    (hs : ∀ i x H H', i < n → Same H1 H → Y i H x H' → ∀ Qy : VK, (∀ y d H4, Same H H4 → Dp K H4 y d → flatD d = true → R i d → Qy y H4) → g x (wipe σ vs) H' fun σ2 H2 => wipe σ2 vs = wipe σ vs ∧ te σ2 H2 Qy)
    (hd : ∀ acc ds H, Same H1 H → H1 D = none → H D = some (.lst acc) → DpAll K H acc ds → flatDs ds = true → ds.length = n → (∀ i d, ds[i]? = some d → R i d) → Q (.ref D) H)
    (mono : ∀ {x σ H} {Q Q' : L2.St → Hp → Prop}, (∀ σ H, Q σ H → Q' σ H) → g x σ H Q → g x σ H Q') : LcOk J g tYes te vs σ H1 D Q := by
  let Acc : Nat → List V → Hp → Prop := fun i acc H => ∃ ds, DpAll K H acc ds ∧ flatDs ds = true ∧ ds.length = i ∧ ∀ (j : Nat) (d : PyData), ds[j]? = some d → R j d
  refine lc_go w Acc hD hG ⟨[], .nil, rfl, rfl, fun j d e => by simp at e⟩ (fun i x H H' acc hi s e l a hy => ?_) fun acc H s e _ ⟨ds, h1, h2, h3, h4⟩ => hd acc ds H s hD e h1 h2 h3 h4
  obtain ⟨ds, h1, h2, h3, h4⟩ := a
  refine mono (fun σ2 H2 q => ⟨q.1, w_yes (w_iteT q.2)⟩) (hs i x H H' hi s hy (fun y H4 => LcY H1 D Acc i y H4) fun y d H4 s4 dy fl ry => ?_)
  have e4 := s4 _ _ e
  refine lc_y (Acc := Acc) hD (s.trans s4) e4 l (by omega) ⟨ds ++ [d], ?_, flatDs_snoc h2 fl, by simp [h3], fun j z ej => ?_⟩
  · have st : SameT H4 (upd H4 D (.lst (acc ++ [y]))) := SameT.lst e4
    exact dps_snoc (dps_flat st (dps_same s4 h1) h2) (dp_flat st dy fl)
  · by_cases q : j < ds.length
    · rw [List.getElem?_append_left q] at ej; exact h4 j z ej
    · rw [List.getElem?_append_right (Nat.le_of_not_lt q)] at ej
      have q2 : j = ds.length := by
        obtain ⟨h1, _⟩ := List.getElem?_eq_some_iff.mp ej
        simp at h1; omega
      subst q2
      simp at ej
      subst ej
      rw [h3]; exact ry
end
theorem log2_le (i : Int) (h0 : 0 ≤ i) (h1 : i ≤ 10 ^ 100) : i.natAbs.log2 < 1920 := by
  refine Nat.lt_of_lt_of_le (PySem.Flt.log2_lt_of (by decide : 0 < 400) ?_) (by decide)
  have h2 : i.natAbs ≤ 10 ^ 100 := by omega
  exact Nat.lt_of_le_of_lt h2 (by decide)
theorem okD_name {x : Str} (h : isName x = true) : okD (.str x) = true := by
  show (x.cps.toList.all fun c => decide (c < 16 ^ 8)) = true
  rw [List.all_eq_true]
  intro c hc
  have := List.all_eq_true.mp (isName_let h) c hc
  unfold isLet at this
  have h2 := of_decide_eq_true (Bool.and_eq_true_iff.mp this).2
  exact decide_eq_true (by omega)
theorem bag_shows_aux : ∀ ps : Bag, BagS ps → okDs (ps.map pairD) = true ∧ rbs (ps.map pairD) ≤ 2100 * ps.length ∧ PyData.depthAll (ps.map pairD) ≤ 1
  | [], _ => by simp [okDs, rbs, PyData.depthAll]
  | p :: r, h => by
    obtain ⟨i1, i2, i3⟩ := bag_shows_aux r fun q hq => h q (List.mem_cons_of_mem _ hq)
    obtain ⟨h1, h2, h3⟩ := h p List.mem_cons_self
    have hl := (isName_len h1).2
    have e1 : okD (pairD p) = true := by
      show (okD (.str p.1) && (okD (.int p.2) && true)) = true
      rw [okD_name h1, show okD (.int p.2) = true from decide_eq_true (log2_le _ h2 h3)]; rfl
    have e2 : rb (pairD p) = (10 * p.1.length + 2 + 2 + (1921 + 2 + 0)) + 3 := rfl
    have e3 : (pairD p).depth = 1 := by simp [pairD, PyData.depth, PyData.depthAll]
    refine ⟨?_, ?_, ?_⟩
    · show (okD (pairD p) && okDs (r.map pairD)) = true
      rw [e1, i1]; rfl
    · show rb (pairD p) + 2 + rbs (r.map pairD) ≤ _
      rw [e2, List.length_cons]; omega
    · show max (pairD p).depth (PyData.depthAll (r.map pairD)) ≤ 1
      rw [e3]; omega
theorem bag_shows {ps : Bag} (h : BagS ps) (hl : ps.length ≤ 5000) : Shows (bagD ps) := by
  obtain ⟨i1, i2, i3⟩ := bag_shows_aux ps h
  refine ⟨i1, ?_, ?_⟩
  · show rbs (ps.map pairD) + 3 ≤ _
    omega
  · show PyData.depthAll (ps.map pairD) + 1 ≤ 60
    omega
theorem ds_eq {ds : List PyData} {α : Type} {l : List α} {f : α → PyData} (hl : ds.length = l.length) (h : ∀ (i : Nat) (d : PyData), ds[i]? = some d → ∃ a, l[i]? = some a ∧ d = f a) : ds = l.map f := acc_map hl h
theorem Has.fixed {P : Program} {w : World} {K : PySem.W.Frag} {mg : Str → Option Value} {base : Heap} {CX : CXT} {k : Nat} {x : Str} {st : Stmt} {ps : List Str} {sp : Sp} (h : Has P w K mg base CX k x st ps sp) {fd : FuncData}
    (F0 : FunD K x x (defArgs st) (defBody st) (defScope st) [] [] (He.ga K x) fd) : FnG P w K mg base CX k (He.ga K x) fd ps sp := by
  obtain ⟨fd', F1, G⟩ := h.ex
  have e : fd' = fd := by
    obtain ⟨oc, od, dV, kV, doc, pm, an, cdv, ct, osl, e1, l1, _⟩ := F1.ex
    obtain ⟨oc2, od2, dV2, kV2, doc2, pm2, an2, cdv2, ct2, osl2, e2, l2, _⟩ := F0.ex
    rw [l1] at l2
    injection l2 with l3
    injection l3 with _ _ l4 _
    injection l4
  rw [← e]; exact G
end TP

namespace TP
open PySem PySem.Spec PyProof.Rows L2
theorem vals_pick {xs : List V} {us : List Value} (r : Vals xs us) : ∀ js : List Nat, Vals (js.filterMap fun k => xs[k]?) (js.filterMap fun k => us[k]?)
  | [] => .nil
  | j :: js => by
    rw [List.filterMap_cons, List.filterMap_cons]
    cases e : xs[j]? with
    | none =>
      rw [r.none_of e]
      exact vals_pick r js
    | some x =>
      obtain ⟨u, e2, ru⟩ := r.get e
      rw [e2]
      exact .cons ru (vals_pick r js)
section
variable {prog : Program} {w : World} {A : Around} {E : Value → Shared → Prop} {s : Shared}
end
section
variable {X : Cx} {e : Expr} {te : TE} {k : Nat} {p1 p2 p3 pos : Pos} (K : PySem.W.Frag)
end
theorem fm_congr {α β : Type} {f g : α → Option β} : ∀ {l : List α}, (∀ a ∈ l, f a = g a) → l.filterMap f = l.filterMap g
  | [], _ => rfl
  | a :: r, h => by rw [List.filterMap_cons, List.filterMap_cons, h a List.mem_cons_self, fm_congr fun b hb => h b (List.mem_cons_of_mem _ hb)]
section
variable {J : It} {n : Nat} {G : Hp → Prop} {Y : Nat → Hp → V → Hp → Prop} {g : TG} {tt : TT} {te : TE} {vs : List Nat} {σ : L2.St} {H1 : Hp} {D : Addr} {Q : VK} {α : Type}
theorem lc_fmd (K : PySem.W.Frag) (w : Walk J n G Y) (l : List α) (f : α → Option PyData) (hl : l.length = n) (hn : n ≤ 100000) (hf : ∀ a d, f a = some d → flatD d = true) (hD : H1 D = none) (hG : ∀ H, Same H1 H → G H)
    (hs : ∀ i x a H H', l[i]? = some a → Same H1 H → Y i H x H' → ∀ (Qy : VK) (Qn : Hp → Prop), (∀ y d H4, Same H H4 → f a = some d → Dp K H4 y d → Qy y H4) → (∀ H4, Same H H4 → f a = none → Qn H4) →
      g x (wipe σ vs) H' fun σ2 H2 => wipe σ2 vs = wipe σ vs ∧ tt σ2 H2 fun b H3 => if b = true then te σ2 H3 (fun y H4 => Qy y H4) else Qn H3)
    (hd : ∀ acc H, Same H1 H → H1 D = none → H D = some (.lst acc) → DpAll K H acc (l.filterMap f) → Q (.ref D) H) : LcOk J g tt te vs σ H1 D Q := by
  have flat : ∀ l' : List α, flatDs (l'.filterMap f) = true := by
    intro l'
    induction l' with
    | nil => rfl
    | cons a r ih =>
      rw [List.filterMap_cons]
      cases e : f a with
      | none => exact ih
      | some d => show (flatD d && flatDs (r.filterMap f)) = true; rw [hf a d e, ih]; rfl
  let Acc : Nat → List V → Hp → Prop := fun i acc H => DpAll K H acc ((l.take i).filterMap f)
  refine lc_go w Acc hD hG (by show DpAll K _ [] _; simp; exact .nil) (fun i x H H' acc hi s e l0 a hy => ?_) fun acc H s e _ a => ?_
  · have ha : l[i]? = some l[i] := List.getElem?_eq_getElem (by omega)
    have aa : DpAll K H acc ((l.take i).filterMap f) := a
    refine hs i x l[i] H H' ha s hy (fun y H4 => LcY H1 D Acc i y H4) (fun H4 => LcI H1 D Acc (i + 1) H4) (fun y d H4 s4 ed dy => ?_) fun H4 s4 ed => ?_
    · have e4 := s4 _ _ e
      refine lc_y (Acc := Acc) hD (s.trans s4) e4 l0 (by omega) ?_
      have st : SameT H4 (upd H4 D (.lst (acc ++ [y]))) := SameT.lst e4
      show DpAll K _ (acc ++ [y]) ((l.take (i + 1)).filterMap f)
      rw [take_succ_snoc ha, List.filterMap_append, List.filterMap_cons, ed]
      exact dps_snoc (dps_flat st (dps_same s4 aa) (flat _)) (dp_flat st dy (hf _ _ ed))
    · refine lc_skip (Acc := Acc) (s.trans s4) (s4 _ _ e) l0 ?_
      show DpAll K _ acc ((l.take (i + 1)).filterMap f)
      rw [take_succ_snoc ha, List.filterMap_append, List.filterMap_cons, ed]
      simp
      exact dps_same s4 aa
  · have aa : DpAll K H acc ((l.take n).filterMap f) := a
    rw [List.take_of_length_le (by omega)] at aa
    exact hd acc H s hD e aa
end
theorem getT_cons (p : Str × Int) (r : Bag) (n : Str) : getT (p :: r) n = if p.1 = n then p.2 else getT r n := by
  unfold getT
  rw [List.find?_cons]
  by_cases e : p.1 = n
  · rw [if_pos e, decide_eq_true e]; rfl
  · rw [if_neg e, decide_eq_false e]
theorem getT_out {t : Bag} {n : Str} (h : ∀ p ∈ t, p.1 ≠ n) : getT t n = 0 := by
  unfold getT
  rw [List.find?_eq_none.mpr fun p hp => by simpa using h p hp]; rfl
theorem getT_mem : ∀ {t : Bag} {p : Str × Int}, (t.map (·.1)).Nodup → p ∈ t → getT t p.1 = p.2
  | [], p, _, h => by cases h
  | q :: r, p, nd, h => by
    rw [getT_cons]
    have nd' := List.nodup_cons.mp (show (q.1 :: r.map (·.1)).Nodup from nd)
    rcases List.mem_cons.mp h with e | h
    · rw [e, if_pos rfl]
    · rw [if_neg (fun e : q.1 = p.1 => nd'.1 (by rw [e]; exact List.mem_map.mpr ⟨p, h, rfl⟩))]
      exact getT_mem nd'.2 h
theorem can_unique : ∀ {f : Str → Int} {ps qs : Bag}, IsCan f ps → IsCan f qs → ps = qs
  | f, [], [], _, _ => rfl
  | f, [], q :: r, h1, h2 => by
    have e := h1.cnt q.1
    rw [← h2.cnt q.1, getT_cons, if_pos rfl] at e
    have := h2.pos q List.mem_cons_self
    have : getT [] q.1 = 0 := rfl
    omega
  | f, p :: r, [], h1, h2 => by
    have e := h2.cnt p.1
    rw [← h1.cnt p.1, getT_cons, if_pos rfl] at e
    have := h1.pos p List.mem_cons_self
    have : getT [] p.1 = 0 := rfl
    omega
  | f, p :: r, q :: t, h1, h2 => by
    have a1 := List.pairwise_cons.mp h1.asc
    have a2 := List.pairwise_cons.mp h2.asc
    have in1 : ∀ n, 0 < f n → n = p.1 ∨ ltS p.1 n := fun n hn => by
      rw [← h1.cnt n, getT_cons] at hn
      by_cases e : p.1 = n
      · exact .inl e.symm
      · rw [if_neg e] at hn
        refine .inr (Classical.byContradiction fun z => ?_)
        rw [getT_out (fun x hx e2 => z (by have := a1.1 x hx; rw [e2] at this; exact this))] at hn
        omega
    have in2 : ∀ n, 0 < f n → n = q.1 ∨ ltS q.1 n := fun n hn => by
      rw [← h2.cnt n, getT_cons] at hn
      by_cases e : q.1 = n
      · exact .inl e.symm
      · rw [if_neg e] at hn
        refine .inr (Classical.byContradiction fun z => ?_)
        rw [getT_out (fun x hx e2 => z (by have := a2.1 x hx; rw [e2] at this; exact this))] at hn
        omega
    have fp : f p.1 = p.2 := by rw [← h1.cnt p.1, getT_cons, if_pos rfl]
    have fq : f q.1 = q.2 := by rw [← h2.cnt q.1, getT_cons, if_pos rfl]
    have pp := h1.pos p List.mem_cons_self
    have pq := h2.pos q List.mem_cons_self
    have en : p.1 = q.1 := by
      rcases in1 q.1 (by omega) with e | e
      · exact e.symm
      · rcases in2 p.1 (by omega) with e2 | e2
        · exact e2
        · exact absurd e2 (ltS_asymm e)
    have epq : p = q := Prod.ext en (by rw [← fp, ← fq, en])
    subst epq
    have ih : r = t := can_unique (f := fun n => if p.1 = n then 0 else f n)
      ⟨a1.2, fun x hx => h1.pos x (List.mem_cons_of_mem _ hx), fun n => by
        by_cases e : p.1 = n
        · rw [if_pos e, getT_out fun x hx e2 => ltS_ne (a1.1 x hx) (e.trans e2.symm)]
        · rw [if_neg e, ← h1.cnt n, getT_cons, if_neg e]⟩
      ⟨a2.2, fun x hx => h2.pos x (List.mem_cons_of_mem _ hx), fun n => by
        by_cases e : p.1 = n
        · rw [if_pos e, getT_out fun x hx e2 => ltS_ne (a2.1 x hx) (e.trans e2.symm)]
        · rw [if_neg e, ← h2.cnt n, getT_cons, if_neg e]⟩
    rw [ih]
theorem OrdOk.sz {ps : Bag} (h : OrdOk ps) : szDs (ps.map pairD) = true := szD_bag fun p hp => by have := (isName_len (h.nam p hp)).2; omega
theorem tab_keys : ∀ (ps t : Bag), (ps.foldl addT t).map (·.1) = (ps.map (·.1)).foldl addN (t.map (·.1))
  | [], t => rfl
  | p :: r, t => by
    rw [List.foldl_cons, tab_keys r, List.map_cons, List.foldl_cons]
    congr 1
    unfold addT putT addN
    have e : (t.any fun q => decide (q.1 = p.1)) = decide (p.1 ∈ t.map (·.1)) := by
      by_cases h : p.1 ∈ t.map (·.1)
      · rw [decide_eq_true h, List.any_eq_true]
        obtain ⟨q, hq, e⟩ := List.mem_map.mp h
        exact ⟨q, hq, decide_eq_true e⟩
      · rw [decide_eq_false h, Bool.eq_false_iff]
        intro z
        obtain ⟨q, hq, e⟩ := List.any_eq_true.mp z
        exact h (List.mem_map.mpr ⟨q, hq, of_decide_eq_true e⟩)
    rw [e]
    by_cases h : p.1 ∈ t.map (·.1)
    · rw [if_pos (decide_eq_true h), if_pos h, List.map_map]
      refine List.map_congr_left fun q _ => ?_
      by_cases z : q.1 = p.1
      · simp [z]
      · simp [z]
    · rw [if_neg (by rw [decide_eq_false h]; exact Bool.false_ne_true), if_neg h, List.map_append]; rfl
theorem tabOf_keys (ps : Bag) : (tabOf ps).map (·.1) = namesOf (ps.map (·.1)) := tab_keys ps []
theorem cnt_pos {ps : Bag} (h : ∀ p ∈ ps, 0 ≤ p.2) (n : Str) : 0 ≤ cntC ps n := by
  unfold cntC
  generalize hl : ps.filter (fun p => decide (p.1 = n)) = l
  have hm : ∀ p ∈ l, 0 ≤ p.2 := fun p hp => h p ((List.mem_filter.mp (by rw [hl]; exact hp)).1)
  clear hl
  induction l with
  | nil => simp
  | cons p r ih =>
    rw [List.map_cons, List.sum_cons]
    have := hm p List.mem_cons_self
    have := ih fun q hq => hm q (List.mem_cons_of_mem _ hq)
    omega
end TP

namespace TP
open PySem PySem.Spec PyProof.Rows L2
theorem c_lenD {X : Cx} : CallR X (.builtin "len") rLenD := call_lenD
theorem c_sortedDk {X : Cx} (hc : X.calm = true) : CallR X (.builtin "sorted") rSortedDk := call_sortedD hc
theorem eqv_self : ∀ d : PyData, d.canLay0 = true → PyData.eqv d d = true := PySem.SeqAt.eqv_refl
section
variable {K : PySem.W.Frag} {σ : L2.St} {H : Hp} {Q : VK} {te td ty : TE} {QB : Bool → Hp → Prop} {a : Addr} {xs : List V} {v w : V}
theorem w_lenD {kvs : List (Key × V)} (h1 : H a = some (.dK kvs)) (h : Q (.int (kvs.length : Nat)) H) : rLenD [.ref a] H Q := ⟨a, kvs, rfl, h1, h⟩
theorem w_sortedDk {t : Bag} (h1 : H a = some (.dK (kvOf t))) (hl : t.length < 64) (h : ∀ (ys : List Str) (p : Addr), ys.Perm (t.map (·.1)) → sortedS ys = true → H p = none → Q (.ref p) (upd H p (.lst (ys.map V.str)))) : rSortedDk [.ref a] H Q :=
  ⟨a, kvOf t, t.map (·.1), rfl, .inl h1, by unfold kvOf; rw [List.map_map, List.map_map]; rfl, by rw [List.length_map]; exact hl, h⟩
theorem w_tru (h : te σ H fun x H1 => TruC K x H1 fun b => QB b H1) : tTru K te σ H QB := h
theorem w_truI {k : Bool → Prop} {i : Int} (h : k (i != 0)) : TruC K (.int i) H k := ⟨_, rfl, h⟩
theorem w_truB {k : Bool → Prop} {b : Bool} (h : k b) : TruC K (.bl b) H k := ⟨_, rfl, h⟩
theorem w_dget (h : td σ H fun x H1 => ty σ H1 fun y H2 => DGetC x y H2 Q) : tDGet td ty σ H Q := h
theorem w_dgetc {kvs : List (Key × V)} {n : Str} (h1 : H a = some (.dK kvs)) (e : valV kvs (.inr n) = some v) (h : Q v H) : DGetC (.ref a) (.str n) H Q := ⟨a, v, rfl, by have := DGet.k (k := .inr n) h1; rw [e] at this; exact this, h⟩
theorem w_eqD {d e : PyData} (h1 : Dp K H v d) (h2 : Dp K H w e) (s1 : SeqAt.shaped d = true) (s2 : SeqAt.shaped e = true) (h : Q (.bl (PyData.eqv d e)) H) : rEqD K v w H Q := ⟨d, e, h1, h2, s1, s2, h⟩
end
theorem AllSame.flat {K : PySem.W.Frag} {H : Hp} : ∀ {xs : List V}, xs.all flatB = true → AllSame K H xs xs
  | [], _ => .nil
  | x :: r, h => by
    have h' := Bool.and_eq_true_iff.mp (show (flatB x && r.all flatB) = true from h)
    exact .cons (.inl ⟨rfl, h'.1⟩) (AllSame.flat h'.2)
section
variable {X : Cx} {pins : List (Addr × Obj)} {σ : L2.St} {H : Hp} {s : Shared}
theorem sameV_at (I : Inv X pins σ H s) (hu : X.A.units + 66 < cLine) {x y : V} {v u : Value} (h : SameV X.K H x y) (rx : RelV x v) (ry : RelV y u) : SeqAt.EqAt X.A.in1 s v u true := by
  rcases h with ⟨rfl, f⟩ | ⟨d, h1, h2, sh⟩
  · exact eqAt_same rx ry f
  · obtain ⟨as, r1⟩ := Dp.reads I d x v h1 rx
    obtain ⟨bs, r2⟩ := Dp.reads I d y u h2 ry
    have c := SeqAt.canLay_of_shaped sh
    have := SeqAt.eqAt_reads d d X.A.in1 s v u as bs r1 r2 c c (by have := SeqAt.depth_of_shaped sh; show X.A.units + 1 + min d.depth d.depth < cLine; omega)
    rwa [eqv_self d c] at this
theorem sameV_items (I : Inv X pins σ H s) (hu : X.A.units + 66 < cLine) : ∀ {xs ys : List V}, AllSame X.K H xs ys → ∀ {us ws : List Value}, Vals xs us → Vals ys ws → ∀ j (h1 : j < us.length) (h2 : j < ws.length), SeqAt.EqAt X.A.in1 s us[j] ws[j] true
  | _, _, .nil, us, ws, r1, r2, j, h1, h2 => by cases r1; exact absurd h1 (Nat.not_lt_zero j)
  | _, _, .cons h t, us, ws, r1, r2, j, h1, h2 => by
    cases r1 with
    | cons a1 b1 =>
      cases r2 with
      | cons a2 b2 =>
        cases j with
        | zero => exact sameV_at I hu h a1 a2
        | succ j => exact sameV_items I hu t b1 b2 j (Nat.lt_of_succ_lt_succ h1) (Nat.lt_of_succ_lt_succ h2)
theorem op_neL (hu : X.A.units + 66 < cLine) : OpR X (compareOp .NotEq) (rNeL X.K) := by
  intro pins s σ H x y v u Q I rx ry h
  obtain ⟨a, b, xs, ys, rfl, rfl, ha, hb, hp, q⟩ := h
  cases (show v = Value.ref a from rx)
  cases (show u = Value.ref b from ry)
  obtain ⟨us, r1, p1, _⟩ := I.list ha
  obtain ⟨ws, r2, p2, _⟩ := I.list hb
  have hsz : us.toArray.size = ws.toArray.size := by rw [List.size_toArray, List.size_toArray, ← r1.length, ← r2.length]; exact hp.len
  refine SeqAt.RcNeAt.lists (e := fun _ => true) p1.isList p2.isList hsz (by omega) (fun j h1 h2 => ?_) X.prog X.w _ _ ?_
  · have k := sameV_items I hu hp r1 r2 j (by simpa using h1) (by simpa using h2)
    simpa using k
  · rw [show ((List.range us.toArray.size).all fun _ => true) = true from List.all_eq_true.mpr fun _ _ => rfl]
    exact ⟨.bl false, H, I, rfl, q⟩
theorem op_neE (hu : X.A.units + 66 < cLine) : OpR X (compareOp .NotEq) (rNeE X.K) := by
  intro pins s σ H x y v u Q I rx ry h
  obtain ⟨a, b, xs, e1, e2, ha, hb, q⟩ := h
  cases xs with
  | nil => exact op_neL hu pins s σ H x y v u Q I rx ry ⟨a, b, [], [], e1, e2, ha, hb, .nil, q⟩
  | cons z r =>
    subst e1 e2
    cases (show v = Value.ref a from rx)
    cases (show u = Value.ref b from ry)
    obtain ⟨us, r1, p1, _⟩ := I.list ha
    obtain ⟨ws, r2, p2, _⟩ := I.list hb
    refine SeqAt.RcNeAt.lists_lengths p1.isList p2.isList ?_ (by omega) X.prog X.w _ _ ⟨.bl true, H, I, rfl, q⟩
    rw [List.size_toArray, List.size_toArray, ← r1.length, ← r2.length]
    simp
theorem k_neE (K : PySem.W.Frag) (hu : X.A.units + 66 < cLine) (h : X.K = K := by rfl) : OpR X (compareOp .NotEq) (rNeE K) := by subst h; exact op_neE hu
theorem k_neL (K : PySem.W.Frag) (hu : X.A.units + 66 < cLine) (h : X.K = K := by rfl) : OpR X (compareOp .NotEq) (rNeL K) := by subst h; exact op_neL hu
end
theorem u66 {k : Nat} {A : Around} (r : Room k A) : A.units + 66 < cLine := by have := r.un; omega
section
variable {K : PySem.W.Frag} {H : Hp} {Q : VK} {a b : Addr} {xs ys : List V}
theorem w_neE (h1 : SqL K H a xs) (h2 : SqL K H b []) (h : Q (.bl (!xs.isEmpty)) H) : rNeE K (.ref a) (.ref b) H Q := ⟨a, b, xs, rfl, rfl, h1, h2, h⟩
theorem w_neL (h1 : SqL K H a xs) (h2 : SqL K H b ys) (hs : AllSame K H xs ys) (h : Q (.bl false) H) : rNeL K (.ref a) (.ref b) H Q := ⟨a, b, xs, ys, rfl, rfl, h1, h2, hs, h⟩
/-- lists of the same flat values -/
theorem w_neF (h1 : SqL K H a xs) (h2 : SqL K H b ys) (e : xs = ys) (hf : xs.all flatB = true) (h : Q (.bl false) H) : rNeL K (.ref a) (.ref b) H Q := w_neL h1 h2 (by rw [← e]; exact .flat hf) h
end
theorem canF_mem {f : Str → Int} {ys : List Str} {p : Str × Int} (h : p ∈ canF f ys) : p.1 ∈ ys ∧ p.2 = f p.1 ∧ 0 < p.2 := by
  unfold canF at h
  obtain ⟨y, hy, e⟩ := List.mem_filterMap.mp h
  by_cases z : 0 < f y
  · rw [if_pos z] at e
    cases e
    exact ⟨hy, rfl, z⟩
  · rw [if_neg z] at e; cases e
theorem canF_cons (f : Str → Int) (y : Str) (r : List Str) : canF f (y :: r) = (if 0 < f y then [(y, f y)] else []) ++ canF f r := by
  unfold canF
  rw [List.filterMap_cons]
  by_cases z : 0 < f y
  · rw [if_pos z, if_pos z]; rfl
  · rw [if_neg z, if_neg z]; rfl
theorem canF_get (f : Str → Int) : ∀ (ys : List Str) (n : Str), getT (canF f ys) n = if n ∈ ys ∧ 0 < f n then f n else 0
  | [], n => by simp [canF, getT]
  | y :: r, n => by
    rw [canF_cons]
    by_cases z : 0 < f y
    · rw [if_pos z]
      show getT ((y, f y) :: canF f r) n = _
      rw [getT_cons, canF_get f r]
      by_cases e : y = n
      · subst e
        rw [if_pos rfl, if_pos ⟨List.mem_cons_self, z⟩]
      · rw [if_neg (show ¬ (y, f y).1 = n from e)]
        have : (n ∈ y :: r ∧ 0 < f n) ↔ (n ∈ r ∧ 0 < f n) := by
          rw [List.mem_cons]
          exact ⟨fun ⟨h, h2⟩ => ⟨h.elim (fun q => absurd q.symm e) id, h2⟩, fun ⟨h, h2⟩ => ⟨.inr h, h2⟩⟩
        simp only [this]
    · rw [if_neg z]
      show getT (canF f r) n = _
      rw [canF_get f r]
      have : (n ∈ y :: r ∧ 0 < f n) ↔ (n ∈ r ∧ 0 < f n) := by
        rw [List.mem_cons]
        exact ⟨fun ⟨h, h2⟩ => ⟨h.elim (fun q => absurd (q ▸ h2) z) id, h2⟩, fun ⟨h, h2⟩ => ⟨.inr h, h2⟩⟩
      simp only [this]
theorem canF_asc {f : Str → Int} : ∀ {ys : List Str}, ys.Pairwise ltS → (canF f ys).Pairwise fun a b => ltS a.1 b.1
  | [], _ => .nil
  | y :: r, h => by
    have h' := List.pairwise_cons.mp h
    rw [canF_cons]
    have ih := canF_asc (f := f) h'.2
    split
    · exact List.pairwise_cons.mpr ⟨fun p hp => h'.1 _ (canF_mem hp).1, ih⟩
    · exact ih
theorem canF_can {t : Bag} {ys : List Str} (hp : ys.Perm (t.map (·.1))) (asc : ys.Pairwise ltS) : IsCan (fun n => posI (getT t n)) (canF (getT t) ys) := by
  refine ⟨canF_asc asc, fun p hp => (canF_mem hp).2.2, fun n => ?_⟩
  rw [canF_get]
  show _ = if 0 < getT t n then getT t n else 0
  by_cases z : 0 < getT t n
  · have : n ∈ ys := hp.mem_iff.mpr (Classical.byContradiction fun q => by
      rw [getT_out (fun p hp e => q (List.mem_map.mpr ⟨p, hp, e⟩))] at z
      omega)
    rw [if_pos ⟨this, z⟩, if_pos z]
  · rw [if_neg (fun q => z q.2), if_neg z]
theorem canF_len (f : Str → Int) (ys : List Str) : (canF f ys).length ≤ ys.length := List.length_filterMap_le _ _
theorem can_nam {f : Str → Int} {ps : Bag} (h : IsCan f ps) {p : Str × Int} (hp : p ∈ ps) : f p.1 = p.2 := by rw [← h.cnt, getT_mem (asc_nodup h.asc) hp]
theorem kv_some {t : Bag} {n : Str} (h : n ∈ t.map (·.1)) : valV (kvOf t) (Sum.inr n) = some (.int (getT t n)) := by
  rw [kv_find]
  unfold getT
  cases e : t.find? fun p => decide (p.1 = n) with
  | some p => rfl
  | none =>
    obtain ⟨p, hp, e2⟩ := List.mem_map.mp h
    have := List.find?_eq_none.mp e p hp
    simp [e2] at this
theorem sumC_app : ∀ (a b : Bag), sumC (a ++ b) = sumC a + sumC b
  | [], b => by simp [sumC]
  | p :: r, b => by rw [List.cons_append, sumC_cons, sumC_cons, sumC_app r b]; omega
theorem sumC_pos : ∀ {a : Bag}, (∀ p ∈ a, 0 ≤ p.2) → 0 ≤ sumC a
  | [], _ => by simp [sumC]
  | p :: r, h => by
    rw [sumC_cons]
    have := h p List.mem_cons_self
    have := sumC_pos (a := r) fun q hq => h q (List.mem_cons_of_mem _ hq)
    omega
theorem mem_le : ∀ {a : Bag}, (∀ p ∈ a, 0 ≤ p.2) → ∀ p ∈ a, p.2 ≤ sumC a
  | q :: r, h, p, hp => by
    rw [sumC_cons]
    have h0 := h q List.mem_cons_self
    have hr := sumC_pos (a := r) fun q hq => h q (List.mem_cons_of_mem _ hq)
    rcases List.mem_cons.mp hp with rfl | hp
    · omega
    · have := mem_le (a := r) (fun q hq => h q (List.mem_cons_of_mem _ hq)) p hp
      omega
theorem sum_le (c : Int) : ∀ {a : Bag}, (∀ p ∈ a, p.2 ≤ c) → sumC a ≤ c * (a.length : Int)
  | [], _ => by simp [sumC]
  | p :: r, h => by
    rw [sumC_cons, List.length_cons]
    have := h p List.mem_cons_self
    have := sum_le c (a := r) fun q hq => h q (List.mem_cons_of_mem _ hq)
    have e : c * ((r.length + 1 : Nat) : Int) = c * (r.length : Int) + c := by
      rw [Int.natCast_add, Int.mul_add]; simp
    omega
theorem cnt_some {ps : Bag} (h : ∀ p ∈ ps, 1 ≤ p.2) {p : Str × Int} (hp : p ∈ ps) : 0 < cntC ps p.1 := by
  induction ps with
  | nil => cases hp
  | cons q r ih =>
    rw [cntC_cons]
    have h0 := h q List.mem_cons_self
    have hr := cnt_pos (ps := r) (fun z hz => by have := h z (List.mem_cons_of_mem _ hz); omega) p.1
    rcases List.mem_cons.mp hp with rfl | hp
    · rw [if_pos rfl]; omega
    · have := ih (fun z hz => h z (List.mem_cons_of_mem _ hz)) hp
      split <;> omega
theorem w_catT {K : PySem.W.Frag} {H : Hp} {Q : VK} {a b : Addr} {xs ys : List V} (h1 : SqT K H a xs) (h2 : SqT K H b ys) (hz : xs.length + ys.length ≤ 100000) (h : ∀ c H', Same H H' → SqT K H' c (xs ++ ys) → Q (.ref c) H') : rCatA K (.ref a) (.ref b) H Q := by
  refine ⟨a, b, xs, ys, rfl, rfl, h1, h2, sz_le hz, fun e => ?_, fun _ e => ?_, fun _ _ p hp => ?_⟩
  · subst e; exact h b H (Same.refl _) h2
  · subst e; exact h a H (Same.refl _) (by rw [List.append_nil]; exact h1)
  · exact h p _ (same_new hp) (SqT.of upd_same)
theorem w_catD {K : PySem.W.Frag} {H : Hp} {Q : VK} {v w : V} {ds es : List PyData} (h1 : Dp K H v (.tuple ds)) (h2 : Dp K H w (.tuple es)) (hz : ds.length + es.length ≤ 100000) (h : ∀ c H', Same H H' → Dp K H' c (.tuple (ds ++ es)) → Q c H') : rCatA K v w H Q := by
  obtain ⟨a, xs, rfl, hs, hx⟩ := dp_tup_inv h1
  obtain ⟨b, ys, rfl, ht, hy⟩ := dp_tup_inv h2
  refine w_catT hs ht (by rw [dps_len hx, dps_len hy]; exact hz) fun c H' s hc => h _ _ s (.tup hc (dps_app (dps_same s hx) (dps_same s hy)))
theorem w_stepT2 {K : PySem.W.Frag} {c : Int} {σ : L2.St} {H : Hp} {Q : VK} {te : TE} (h : te σ H fun x H1 => StepC K c x H1 Q) : tStepT K c te σ H Q := h
theorem cutV_take {xs : List V} {k : Nat} : cutV xs none (some (k : Int)) = xs.take k := by
  unfold cutV
  rw [HT.sIx_none, HT.sIx_nat]
  simp
end TP

namespace TP
open PySem PySem.Spec PyProof.Rows L2
theorem vals_app {a b : List V} {c d : List Value} (h1 : Vals a c) (h2 : Vals b d) : Vals (a ++ b) (c ++ d) := h1.append h2
theorem kbn {K : PySem.W.Frag} {x q : Str} {st : Stmt} {dvs : List V} {f : Addr} {fd : FuncData} {ps ks : List Str} {n : Nat} {js : List Nat} (F : FunD K x q (defArgs st) (defBody st) (defScope st) dvs [] f fd) (h : BindJ x q st ps dvs.length n ks js) :
    ∃ g, KBn K fd ps n ks g (fun vs zs => pick js (vs ++ zs ++ dvs)) := by
  rcases h with ⟨e, h⟩ | ⟨e, h⟩
  · have ed : dvs = [] := List.eq_nil_of_length_eq_zero e
    subst ed
    obtain ⟨kV, doc, pm, an, cdv, ct, rfl⟩ := FunD.noDef F
    refine ⟨fun us ws => pick js (us ++ ws), ⟨fun s us ws X l1 l2 => .of_eq (h kV doc pm an cdv ct us ws l1 l2), fun r1 r2 => ?_⟩⟩
    rw [List.append_nil]
    exact vals_pick (vals_app r1 r2) js
  · have hd : dvs ≠ [] := fun z => e (by rw [z]; rfl)
    obtain ⟨its, B⟩ := FunD.kbindsD F n ks (fun us its ws => pick js (us ++ ws ++ its)) hd (fun r1 r2 r3 => vals_pick (vals_app (vals_app r1 r3) r2) js) h
    exact ⟨_, B⟩
section
variable {P : Program} {w : World} {K : PySem.W.Frag} {mg : Str → Option Value} {base : Heap} {CX : CXT} {k j : Nat} {C m q : Str} {st : Stmt} {dvs : List V} {N ps : List Str} {sp sp' : Sp}
end
theorem clsB_ok {K : PySem.W.Frag} {h : Heap} {mg : Str → Option Value} {C : Str} {fs : List Str} (X : K.In h) (G : h.Ns mainGlobals mg) (c : clsB K C fs = true) : ClsF K mg C fs := by
  obtain ⟨c0, c⟩ := He.ba c
  obtain ⟨c1, c⟩ := He.ba c
  obtain ⟨c2, c⟩ := He.ba c
  obtain ⟨c3, c⟩ := He.ba c
  obtain ⟨c4, c⟩ := He.ba c
  obtain ⟨c5, c⟩ := He.ba c
  obtain ⟨c6, c⟩ := He.ba c
  obtain ⟨c7, c⟩ := He.ba c
  obtain ⟨c8, c⟩ := He.ba c
  obtain ⟨c9, c⟩ := He.ba c
  obtain ⟨c10, c11⟩ := He.ba c
  exact ⟨He.glo_ok X G c0, He.cls_ok c1, fun f hf => He.noat_ok (List.all_eq_true.mp c2 f hf), He.mkr_ok c3, He.eqO_ok c4, He.eqO_ok c5, of_decide_eq_true c6, of_decide_eq_true c7, of_decide_eq_true c8,
    fun T hT => of_decide_eq_true (List.all_eq_true.mp c9 T hT), fun T hT => of_decide_eq_true (List.all_eq_true.mp c10 T hT), He.eqO_ok c11⟩
theorem etupB_ok {K : PySem.W.Frag} {a : Addr} (h : etupB K a = true) (H : Hp) : SqT K H a [] := by
  unfold etupB at h
  cases q : K.lookup a with
  | none => rw [q] at h; cases h
  | some o =>
    obtain ⟨oc, od, dt, osl⟩ := o
    rw [q] at h
    cases oc with
    | type c =>
      cases dt with
      | seq its n =>
        obtain ⟨h1, h2⟩ := He.ba (show (decide (c = "tuple") && decide (its = #[])) = true from h)
        have e := of_decide_eq_true h2
        subst e
        exact .inr ⟨_, #[], n, q, congrArg Value.type (of_decide_eq_true h1), rfl, Nat.zero_le _, .nil⟩
      | _ => cases h
    | _ => cases dt <;> cases h
theorem ex_at {K : PySem.W.Frag} {ex : List (PySem.W.Frag → Bool)} (h : (ex.all fun e => e K) = true) (i : Nat) {e : PySem.W.Frag → Bool} (hi : ex[i]? = some e := by rfl) : e K = true := List.all_eq_true.mp h e (List.mem_of_getElem? hi)
theorem k_sfld {X : Cx} {o value : Expr} {ta tv : TE} {f : Str} {pos pos' : Pos} (K : PySem.W.Frag) (ha : PE X o ta) (hv : PE X value tv) (hs : swapsWith value (some (.Attribute o f pos')) pos.line X.env = pure false) (hK : X.K = K := by rfl) : PS X (.Assign [.Attribute o f pos'] value pos) (sFld K ta tv f) := by subst hK; exact ps_fld ha hv hs
section
variable {X : Cx} {CX : CXT} {k n : Nat} {f : Addr} {fd : FuncData} {C m q : Str} {st : Stmt} {dvs : List V} {ps ks : List Str} {js : List Nat} {sp : Sp} {E : XK} {p pos apos : Pos} {e o : Expr} {es : List Expr} {kws : List Keyword} {ta : TE} {t tk : TA} {fs : List Str} {g : List Value → List Value → List Value} {gV : List V → List V → List V}
theorem runGN {pins : List (Addr × Obj)} {σ : L2.St} {H : Hp} {s : Shared} {Q : VK} {us ws : List Value} {vs zs : List V} (F : FnG X.prog X.w X.K X.mg X.base CX k f fd ps sp) (hr : Room k X.A) (hg : X.A.guards = some []) (hx : Passes CX X E) (hb : KBn X.K fd ps n ks g gV)
    (I : Inv X pins σ H s) (r : Vals vs us) (rz : Vals zs ws) (l1 : vs.length = n) (l2 : zs.length = ks.length) (h : sp (gV vs zs) H Q E) : wpAny (model X.prog X.w) X.A (call (.ref f) us (ks.zip ws)) (EP X pins σ Q) X.xe s :=
  runG (args := ⟨us, ks.zip ws⟩) F hr hg hx I (hb.rel r rz) (hb.to s us ws I.kIn (by rw [← r.length]; exact l1) (by rw [← rz.length]; exact l2)) h
theorem run_makeG {pins : List (Addr × Obj)} {σ : L2.St} {H : Hp} {s : Shared} {Q : VK} {us ws : List Value} {vs zs : List V} {C : Addr} (M : Mk X.K C f) (F : FnG X.prog X.w X.K X.mg X.base CX k f fd ps sp) (hr : Room (k + 1) X.A) (hg : X.A.guards = some []) (hb : KBn X.K fd ps (n + 1) ks g gV)
    (hx : Passes CX X E) (I : Inv X pins σ H s) (r : Vals vs us) (rz : Vals zs ws) (l1 : vs.length = n) (l2 : zs.length = ks.length)
    (h : ∀ x dx, H x = none → H dx = none → dx ≠ x → sp (gV (.ref x :: vs) zs) (upd (upd H dx (.own x)) x (.ins C dx [])) (fun v H2 => v = .non ∧ Q (.ref x) H2) E) :
    wpAny (model X.prog X.w) X.A (call (.ref C) us (ks.zip ws)) (EP X pins σ Q) X.xe s := by
  have hq := h (s.heap.objs.size + 1) s.heap.objs.size (I.hok.fresh (Nat.le_succ _)) (I.hok.fresh (Nat.le_refl _)) (Nat.ne_of_lt (Nat.lt_succ_self _))
  have I2 := Inv.made (C := C) I
  have r1 : Vals (V.ref (s.heap.objs.size + 1) :: vs) (Value.ref (s.heap.objs.size + 1) :: us) := .cons rfl r
  have r2 := hb.rel r1 rz
  have e1 : (Value.ref (s.heap.objs.size + 1) :: us).length = n + 1 := r1.length.symm.trans (congrArg Nat.succ l1)
  have e2 : ws.length = ks.length := rz.length.symm.trans l2
  refine wpAny_call (make_map (f := f) I.kIn M.makes M.init (beq_iff_eq.mp M.fn) (codeAny_mono (F.run _ X.stack _ _ ⟨Value.ref (s.heap.objs.size + 1) :: us, ks.zip ws⟩ (g (Value.ref (s.heap.objs.size + 1) :: us) ws) _ _ E (hr.make C us (ks.zip ws)) hg
    (I2.env0.make C us (ks.zip ws)) (hb.to _ (Value.ref (s.heap.objs.size + 1) :: us) ws I2.kIn e1 e2) r2 hq) fun r s' hq' => ?_))
  cases r with
  | error e => exact hx pins σ _ _ e s' I2 hq'
  | ok fl =>
    cases fl with
    | ret u =>
      obtain ⟨v, H', I3, rv, ev, q3⟩ := I2.after hq'
      subst ev
      exact ⟨rv, ⟨V.ref (s.heap.objs.size + 1), H', I3, rfl, q3⟩⟩
    | next => exact False.elim hq'
    | brk => exact False.elim hq'
    | cont => exact False.elim hq'
/-- C(e, ..) -/
theorem pe_mk (c : ClsF X.K X.mg C fs) (F : HasM X.prog X.w X.K X.mg X.base CX k C "__init__" q st dvs ps sp) (hb : BindJ "__init__" q st ps dvs.length (n + 1) [] js) (hr : Room (k + 1) X.A) (hg : X.A.guards = some []) (hgl : Gl X C) (hx : Passes CX X E)
    (ha : PA X (e :: es) t) (hdb : (C == ("__debug__" : Str)) = false := by decide) (he : starEach (e :: es) X.env = (false, eval e X.env) :: starEach es X.env := by rfl) (hpl : (backTo pos (starEach es X.env)).any (·.1) = false := by rfl) :
    PE X (.Call (.Name C p) (e :: es) [] pos) (tMkN (He.ga X.K C) sp n 0 js dvs E t tNil) := by
  obtain ⟨fd, FD, G⟩ := F.ex
  obtain ⟨g, B⟩ := kbn FD hb
  refine ⟨fun pins s σ H Q I h => ?_⟩
  refine wpAny_Call_Name_kw (ld_glob I hgl c.glo ?_ hdb)
  refine PySem.W.callWith_K (h₀ := X.base) I.ok.mod.kin c.mkr.kp (thn (ha.run pos pins s σ H _ I h) fun us s1 ⟨vs, H1, I1, r, l1, l2, q2⟩ => ⟨I1.kIn, ?_⟩) he hpl
  exact run_makeG (ks := []) (ws := []) (zs := []) c.mkr G hr hg B hx I1 r .nil l1 rfl q2
/-- o.m(e, ..) -/
theorem pe_mt {pl : Sem Bool} (c : ClsF X.K X.mg C fs) (F : HasM X.prog X.w X.K X.mg X.base CX k C m q st dvs ps sp) (hb : BindJ m q st ps dvs.length (n + 1) [] js) (hr : Room k X.A) (hg : X.A.guards = some []) (hx : Passes CX X E) (ho : PE X o ta) (ha : PA X (e :: es) t)
    (hst : starEach (e :: es) X.env = (false, eval e X.env) :: starEach es X.env := by rfl) (hpl : (backTo pos (starEach es X.env)).any (·.1) = false := by rfl)
    (ht : eval (.Call (.Attribute o m apos) (e :: es) [] pos) X.env = (do
      let ov ← eval o X.env
      standAt apos.atName
      let (f, first) ← holding [ov] (getMethod ov m pl)
      callWith pos f first (backTo pos (starEach (e :: es) X.env)) (backToKw pos (keywordEach [] X.env))) := by rfl) :
    PE X (.Call (.Attribute o m apos) (e :: es) [] pos) (tMtN (He.ga X.K C) m sp n 0 js dvs E ta t tNil) := by
  obtain ⟨fd, FD, G⟩ := F.ex
  obtain ⟨g, B⟩ := kbn FD hb
  refine ⟨fun pins s σ H Q I h => ?_⟩
  refine PySem.W.methodCall_KW (pl := pl) (thn (ho.run pins s σ H _ I h) fun u s1 ⟨x, H1, I1, rx, a, dx, fs, ex, ea, l, q⟩ => ?_) ht
  subst ex
  obtain rfl : u = Value.ref a := rx
  refine getmeth_ok I1 ea c.cls F.mt l ?_
  refine PySem.W.callWith_K (first := [.ref a]) (h₀ := X.base) I.ok.mod.kin F.mt.kp (thn (ha.run pos pins s1 σ H1 _ I1 q) fun us s2 ⟨vs, H2, I2, r, l1, l2, q2⟩ => ⟨I2.kIn, ?_⟩) hst hpl
  exact runGN (us := .ref a :: us) (vs := .ref a :: vs) (ks := []) (ws := []) (zs := []) G hr hg hx B I2 (.cons rfl r) .nil (congrArg Nat.succ l1) rfl q2
/-- o.m() -/
theorem pe_mt0 {pl : Sem Bool} (c : ClsF X.K X.mg C fs) (F : HasM X.prog X.w X.K X.mg X.base CX k C m q st dvs ps sp) (hb : BindJ m q st ps dvs.length 1 [] js) (hr : Room k X.A) (hg : X.A.guards = some []) (hx : Passes CX X E) (ho : PE X o ta)
    (ht : eval (.Call (.Attribute o m apos) [] [] pos) X.env = (do
      let ov ← eval o X.env
      standAt apos.atName
      let (f, first) ← holding [ov] (getMethod ov m pl)
      callWith pos f first (backTo pos (starEach [] X.env)) (backToKw pos (keywordEach [] X.env))) := by rfl) :
    PE X (.Call (.Attribute o m apos) [] [] pos) (tMtN (He.ga X.K C) m sp 0 0 js dvs E ta tNil tNil) := by
  obtain ⟨fd, FD, G⟩ := F.ex
  obtain ⟨g, B⟩ := kbn FD hb
  refine ⟨fun pins s σ H Q I h => ?_⟩
  refine PySem.W.methodCall_KW (pl := pl) (thn (ho.run pins s σ H _ I h) fun u s1 ⟨x, H1, I1, rx, a, dx, fs, ex, ea, l, l1, l2, q⟩ => ?_) ht
  subst ex
  obtain rfl : u = Value.ref a := rx
  refine getmeth_ok I1 ea c.cls F.mt l ?_
  exact PySem.W.callWith_K0 (first := [.ref a]) I1.kIn F.mt.kp (runGN (us := [.ref a]) (vs := [.ref a]) (ks := []) (ws := []) (zs := []) G hr hg hx B I1 (.cons rfl .nil) .nil rfl rfl q)
end
section
variable {K : PySem.W.Frag} {mg : Str → Option Value} {C f m : Str} {fs : List Str} {σ : L2.St} {H : Hp} {Q : VK} {ta tv : TE} {t tk : TA} {a dx : Addr} {fl : List (Str × V)} {v y : V} {De : Ends}
theorem w_fldN (h : ta σ H fun x H1 => FldC K f x H1 Q) : tFld K ta f σ H Q := h
theorem w_fldc (c : ClsF K mg C fs) (hf : f ∈ fs) (e : H a = some (.ins (He.ga K C) dx fl)) (l : fl.lookup f = some v) (h : Q v H) : FldC K f (.ref a) H Q := ⟨a, _, dx, fl, v, rfl, e, c.cls, c.na f hf, l, h⟩
theorem w_sfld (h : tv σ H fun y H1 => ta σ H1 fun x H2 => SetC K f x y H2 fun H3 => De.nx σ H3) : sFld K ta tv f De σ H := h
theorem w_setc (c : ClsF K mg C fs) (hf : f ∈ fs) {k : Hp → Prop} (e : H a = some (.ins (He.ga K C) dx fl)) (l : fl.length < 1000) (h : k (upd H a (.ins (He.ga K C) dx (putF f y fl)))) : SetC K f (.ref a) y H k := ⟨a, _, dx, fl, rfl, e, c.cls, c.na f hf, l, h⟩
theorem w_lenC {n k : Nat} {vs zs : List V} {P : Prop} (h1 : vs.length = n) (h2 : zs.length = k) (h : P) : LenC n k vs zs P := ⟨h1, h2, h⟩
theorem w_mtN {C : Addr} {sp : Sp} {n k : Nat} {js : List Nat} {dvs : List V} {E : XK} (h : ta σ H fun x H1 => MtC C m x H1 (t σ H1 fun vs H2 => tk σ H2 fun zs H3 => LenC n k vs zs (sp (pick js ((x :: vs) ++ zs ++ dvs)) H3 Q E))) : tMtN C m sp n k js dvs E ta t tk σ H Q := h
theorem w_mtc {C : Addr} {P : Prop} (e : H a = some (.ins C dx fl)) (l : fl.lookup m = none) (h : P) : MtC C m (.ref a) H P := ⟨a, dx, fl, rfl, e, l, h⟩
theorem w_mkN {C : Addr} {sp : Sp} {n k : Nat} {js : List Nat} {dvs : List V} {E : XK} (h : t σ H fun vs H1 => tk σ H1 fun zs H2 => LenC n k vs zs (MkG C sp js dvs vs zs H2 Q E)) : tMkN C sp n k js dvs E t tk σ H Q := h
theorem w_isiT (c : ClsF K mg C fs) (e : H a = some (.ins (He.ga K C) dx fl)) (h : Q (.bl true) H) : rIsi K [.ref a, .ref (He.ga K C)] H Q := ⟨_, _, _, _, true, rfl, .own _, .base (.ins e c.cls c.i1 c.i2 c.i3 c.i4), c.kt, h⟩
theorem w_isiF (c : ClsF K mg C fs) {d : PyData} (hd : Dp K H v d) (h : Q (.bl false) H) : rIsi K [v, .ref (He.ga K C)] H Q := ⟨_, _, _, _, false, rfl, .own _, ty_dp hd, c.kf _ (by cases d <;> simp [tyD]), h⟩
end
end TP

namespace TP
open PySem PySem.Spec PyProof.Rows L2
theorem saysT_dic {fa : List He.Fa} {fn : List He.DefD} {ts : List He.Tab} {w : World} {K : PySem.W.Frag} (c : He.SaysT fa fn ts w K) (i : Nat) {t : He.Tab} (h : ts[i]? = some t := by rfl) : He.dicW K (t.1 K) = some (He.keysIn w.params t.2) := by
  have e : ts.map (fun t => He.dicW K (t.1 K)) = ts.map fun t => some (He.keysIn w.params t.2) := congrArg (fun z : He.AlT => z.2) c
  have e2 : (ts.map fun t => He.dicW K (t.1 K))[i]? = (ts.map fun t => some (He.keysIn w.params t.2))[i]? := by rw [e]
  rw [List.getElem?_map, List.getElem?_map, h] at e2
  exact Option.some.inj e2
end TP

namespace TP
open PySem PySem.Spec PyProof.Rows L2
theorem minL_spec : ∀ {l : List Int}, l ≠ [] → minL l ∈ l ∧ ∀ y ∈ l, minL l ≤ y
  | [], h => absurd rfl h
  | [a], _ => ⟨List.mem_singleton.mpr rfl, fun y hy => by rw [List.mem_singleton.mp hy]; exact Int.le_refl _⟩
  | a :: b :: r, _ => by
    obtain ⟨h1, h2⟩ := minL_spec (l := b :: r) nofun
    show (if a ≤ minL (b :: r) then a else minL (b :: r)) ∈ a :: b :: r ∧ ∀ y ∈ a :: b :: r, (if a ≤ minL (b :: r) then a else minL (b :: r)) ≤ y
    by_cases z : a ≤ minL (b :: r)
    · rw [if_pos z]
      refine ⟨List.mem_cons_self, fun y hy => ?_⟩
      rcases List.mem_cons.mp hy with rfl | hy
      · exact Int.le_refl _
      · exact Int.le_trans z (h2 y hy)
    · rw [if_neg z]
      refine ⟨List.mem_cons_of_mem _ h1, fun y hy => ?_⟩
      rcases List.mem_cons.mp hy with rfl | hy
      · omega
      · exact h2 y hy
theorem minL_eq {l : List Int} {m : Int} (h1 : m ∈ l) (h2 : ∀ y ∈ l, m ≤ y) : minL l = m := by
  obtain ⟨h3, h4⟩ := minL_spec (l := l) (List.ne_nil_of_mem h1)
  exact Int.le_antisymm (h4 m h1) (h2 _ h3)
theorem c_dictD {X : Cx} : CallR X (.type "dict") rDictD := call_dictD
section
variable {K : PySem.W.Frag} {σ : L2.St} {H H1 : Hp} {Q : VK} {te td ty tx : TE} {a d : Addr} {kvs : List (Key × V)} {v : V} {R : It → Hp → Prop} {wi : TI} {g : TG} {tt : TT} {tk tv : TE} {vs : List Nat} {t : TE} {ts tb : TS} {De : Ends} {od : Obj} {D : Addr} {c : TT}
theorem w_din (h : ty σ H fun y H1 => td σ H1 fun x H2 => DInC x y H2 fun b => Q (.bl b) H2) : tDIn ty td σ H Q := by
  show ty σ H _
  exact h
theorem w_dnotin (h : ty σ H fun y H1 => td σ H1 fun x H2 => DInC x y H2 fun b => Q (.bl (!b)) H2) : tDNotIn ty td σ H Q := by
  show ty σ H _
  exact h
theorem w_dinc {n : Str} {k : Bool → Prop} (h1 : Rd H a (.dK kvs)) (h : k (valV kvs (.inr n)).isSome) : DInC (.ref a) (.str n) H k := ⟨a, _, rfl, .inl ⟨kvs, .inr n, h1, rfl, rfl⟩, h⟩
theorem w_dgetR {n : Str} (h1 : Rd H a (.dK kvs)) (e : valV kvs (.inr n) = some v) (h : Q v H) : DGetC (.ref a) (.str n) H Q := ⟨a, v, rfl, .inl ⟨kvs, .inr n, h1, rfl, e.symm⟩, h⟩
theorem w_dictD (h1 : Rd H a (.dK kvs)) (h : ∀ p, H p = none → Q (.ref p) (upd H p (.dK kvs))) : rDictD [.ref a] H Q := ⟨a, kvs, rfl, h1, h⟩
theorem w_iKeys (h : td σ H (OnK R)) : iKeys td σ H R := h
theorem w_onK (h1 : H d = some (.frz od (.dK kvs))) (h : R (Itk d od kvs) H) : OnK R (.ref d) H := ⟨d, od, rfl, .inl ⟨kvs, h1, h⟩⟩
theorem w_lockE (h1 : H d = some (.dK kvs)) (h : ∀ od, t σ (upd H d (.frz od (.dK kvs))) fun v H' => H' d = some (.frz od (.dK kvs)) ∧ Q v (upd H' d (.dK kvs))) : tLockE t σ H Q := ⟨d, _, h1, trivial, h⟩
theorem w_lock (h1 : H d = some (.dK kvs)) (h : ∀ od, ts ⟨fun σ' H' => H' d = some (.frz od (.dK kvs)) ∧ De.nx σ' (upd H' d (.dK kvs)), fun v H' => H' d = some (.frz od (.dK kvs)) ∧ De.rt v (upd H' d (.dK kvs)), fun σ' H' => H' d = some (.frz od (.dK kvs)) ∧ De.bk σ' (upd H' d (.dK kvs)), fun σ' H' => H' d = some (.frz od (.dK kvs)) ∧ De.ct σ' (upd H' d (.dK kvs))⟩ σ (upd H d (.frz od (.dK kvs)))) : tLock ts De σ H := ⟨d, _, h1, trivial, h⟩
theorem w_dc (h : wi σ H fun J H1 => ∀ D, H1 D = none → DcOk J g tt tk tv vs σ H1 D Q) : tDc wi g tt tk tv vs σ H Q := h
theorem w_while3 (Pv : Nat → L2.St → Hp → Prop) (Ex : L2.St → Hp → Prop) (m0 : Nat) (h0 : Pv m0 σ H) (hx : ∀ σ H, Ex σ H → De.nx σ H) (h : (∀ σ H, Ex σ H → De.nx σ H) → ∀ m σ H, Pv m σ H → c σ H fun b H1 => if b = true then WhC m Pv tb De σ H1 else De.nx σ H1) : tWhile c tb De σ H := ⟨Pv, ⟨m0, h0⟩, h hx⟩
/-- a statement, what holds behind it, and the rest -/
theorem w_cut {t u : TS} (Ex : L2.St → Hp → Prop) (hx : ∀ σ H, Ex σ H → u De σ H) (h : (∀ σ H, Ex σ H → u De σ H) → t { De with nx := u De } σ H) : tSeq t u De σ H := h hx
theorem w_min {ns : List Int} (hs : SqL K H a (ns.map V.int)) (hl : ns ≠ []) (h : Q (.int (minL ns)) H) : rMin K [.ref a] H Q := ⟨a, ns, rfl, hs, List.length_pos_iff.mpr hl, fun m h1 h2 => by rw [minL_eq h1 h2] at h; exact h⟩
theorem w_whc {m : Nat} {Pv : Nat → L2.St → Hp → Prop} (h : tb { De with nx := fun σ' H' => ∃ m', m' < m ∧ Pv m' σ' H', ct := fun σ' H' => ∃ m', m' < m ∧ Pv m' σ' H', bk := De.nx } σ H) : WhC m Pv tb De σ H := ⟨_, fun _ _ h => h, h⟩
theorem lock_back {H' : Hp} (h1 : H d = some (.dK kvs)) (s : Same (upd H d (.frz od (.dK kvs))) H') : Same H (upd H' d (.dK kvs)) := fun b o e => by
  by_cases z : b = d
  · subst z; rw [upd_same]; rw [h1] at e; exact e
  · rw [upd_ne z]; exact s b o ((upd_ne z).trans e)
end
/-- a comprehension over something that stays: F i the table behind i turns -/
theorem dc_go {J : It} {n : Nat} {G : Hp → Prop} {Y : Nat → Hp → V → Hp → Prop} {g : TG} {tt : TT} {tk tv : TE} {vs : List Nat} {σ : L2.St} {H1 : Hp} {D : Addr} {Q : VK} (w : Walk J n G Y) (F : Nat → Bag) (hD : H1 D = none) (hG : ∀ H, Same H1 H → G H) (hF0 : F 0 = []) (hlen : ∀ i, i < n → (F i).length ≤ 100000)
    (hs : ∀ i x H H', i < n → Same H1 H → Y i H x H' → ∀ (Qy : V → V → Hp → Prop) (Qn : Hp → Prop), (∀ k c H4, Same H H4 → putT (F i) k c = F (i + 1) → Qy (.str k) (.int c) H4) → (∀ H4, Same H H4 → F (i + 1) = F i → Qn H4) →
      g x (wipe σ vs) H' fun σ2 H2 => wipe σ2 vs = wipe σ vs ∧ tt σ2 H2 fun b H3 => if b = true then tk σ2 H3 (fun y H4 => tv σ2 H4 fun z H5 => Qy y z H5) else Qn H3)
    (hd : ∀ H, Same H1 H → H1 D = none → H D = some (.dK (kvOf (F n))) → Q (.ref D) H) : DcOk J g tt tk tv vs σ H1 D Q := by
  refine ⟨fun i m H => m = n - i ∧ i ≤ n ∧ Same H1 H ∧ H D = some (.dK (kvOf (F i))), ⟨n, rfl, Nat.zero_le _, same_new hD, by rw [upd_same, hF0]; rfl⟩, ?_⟩
  rintro i m H ⟨rfl, hi, s, e⟩
  by_cases hlt : i < n
  · refine .inr ⟨w.goes i H hlt (hG H s), fun H' => Same H1 H' ∧ H' D = some (.dK (kvOf (F (i + 1)))), fun H' p' => ⟨n - (i + 1), by omega, rfl, hlt, p'⟩, fun x H' y => ?_⟩
    refine hs i x H H' hlt s (w.yields i H x H' hlt (hG H s) y) (fun y z H5 => ∃ kvs k, y = kV k ∧ H5 D = some (.dK kvs) ∧ kvs.length < sizeLine ∧ Same H1 (upd H5 D (.dK (putK kvs k z))) ∧ (upd H5 D (.dK (putK kvs k z))) D = some (.dK (kvOf (F (i + 1))))) (fun H' => Same H1 H' ∧ H' D = some (.dK (kvOf (F (i + 1))))) (fun k c H4 s4 ek => ?_) fun H4 s4 ek => ?_
    · refine ⟨kvOf (F i), .inr k, rfl, s4 _ _ e, ?_, same_mut (s.trans s4) hD, ?_⟩
      · rw [kv_len]; exact Nat.lt_of_le_of_lt (hlen i hlt) (by decide)
      · rw [upd_same, kv_put, ek]
    · rw [ek]; exact ⟨s.trans s4, s4 _ _ e⟩
  · have ei : i = n := by omega
    subst ei
    exact .inl ⟨w.stops H (hG H s), hd H s hD e⟩
theorem kv_isSome (t : Bag) (n : Str) : (valV (kvOf t) (Sum.inr n)).isSome = decide (n ∈ t.map (·.1)) := by
  by_cases h : n ∈ t.map (·.1)
  · rw [kv_some h, decide_eq_true h]; rfl
  · rw [decide_eq_false h, kv_find]
    have : t.find? (fun p => decide (p.1 = n)) = none := List.find?_eq_none.mpr fun p hp => by simpa using fun e : p.1 = n => h (List.mem_map.mpr ⟨p, hp, e⟩)
    rw [this]; rfl
theorem kv_at {t : Bag} {i : Nat} {k : Key} {v : V} (h : (kvOf t)[i]? = some (k, v)) : ∃ p, t[i]? = some p ∧ k = .inr p.1 ∧ v = .int p.2 := by
  unfold kvOf at h
  rw [List.getElem?_map] at h
  cases e : t[i]? with
  | none => rw [e] at h; cases h
  | some p => rw [e] at h; cases h; exact ⟨p, rfl, rfl, rfl⟩
theorem bag_nodup {t : Bag} (h : (keys t).Nodup) : t.Nodup := by
  unfold List.Nodup at h ⊢
  exact List.Pairwise.of_map (·.1) (fun a b (h : a.1 ≠ b.1) e => h (by rw [e])) h
theorem mem_get {t : Bag} (h : TabOk t) {p : Str × Int} : p ∈ t ↔ getT t p.1 = p.2 ∧ 1 ≤ p.2 := by
  constructor
  · exact fun hp => ⟨getT_mem h.nd hp, h.pos p hp⟩
  · rintro ⟨e, h1⟩
    refine Classical.byContradiction fun z => ?_
    by_cases k : p.1 ∈ keys t
    · obtain ⟨q, hq, eq⟩ := List.mem_map.mp k
      have e2 := getT_mem h.nd hq
      have : q = p := Prod.ext eq (by rw [← e2, ← e, eq])
      exact z (this ▸ hq)
    · rw [getT_out (fun q hq eq => k (List.mem_map.mpr ⟨q, hq, eq⟩))] at e
      omega
/-- the same numbers: the same table, but for the order -/
theorem tab_perm {s t : Bag} (hs : TabOk s) (ht : TabOk t) (h : ∀ n, getT s n = getT t n) : s.Perm t :=
  (List.perm_ext_iff_of_nodup (bag_nodup hs.nd) (bag_nodup ht.nd)).mpr fun p => by rw [mem_get hs, mem_get ht, h]
theorem getT_pos {t : Bag} (h : TabOk t) (n : Str) : 0 ≤ getT t n := by
  by_cases k : n ∈ keys t
  · obtain ⟨q, hq, rfl⟩ := List.mem_map.mp k
    rw [getT_mem h.nd hq]; have := h.pos q hq; omega
  · rw [getT_out (fun q hq eq => k (List.mem_map.mpr ⟨q, hq, eq⟩))]; omega
theorem posI_of {i : Int} (h : 0 ≤ i) : posI i = i := by unfold posI; split <;> omega
theorem can_tab {t ps : Bag} (ht : TabOk t) (h : IsCan (fun n => posI (getT t n)) ps) : ps.Perm t := by
  refine tab_perm ⟨asc_nodup h.asc, fun p hp => by have := h.pos p hp; omega⟩ ht fun n => ?_
  rw [h.cnt n]; exact posI_of (getT_pos ht n)
/-- ascending, and the same table: the same -/
theorem asc_perm {s t : Bag} (hs : s.Pairwise fun a b => ltS a.1 b.1) (ht : t.Pairwise fun a b => ltS a.1 b.1) (h : s.Perm t) : s = t :=
  List.Perm.eq_of_pairwise (le := fun a b => ltS a.1 b.1) (fun a b _ _ h1 h2 => absurd h2 (ltS_asymm h1)) hs ht h
theorem put_new {t : Bag} {n : Str} {c : Int} (h : n ∉ keys t) : putT t n c = t ++ [(n, c)] := by
  unfold putT
  rw [if_neg]
  intro z
  obtain ⟨q, hq, e⟩ := List.any_eq_true.mp z
  exact h (List.mem_map.mpr ⟨q, hq, of_decide_eq_true e⟩)
theorem tabOf_self {ps : Bag} (h : (keys ps).Nodup) : tabOf ps = ps := by
  have : ∀ (ps acc : Bag), (keys (acc ++ ps)).Nodup → ps.foldl addT acc = acc ++ ps := by
    intro ps
    induction ps with
    | nil => intro acc _; simp
    | cons p r ih =>
      intro acc h
      rw [List.foldl_cons]
      have hn : p.1 ∉ keys acc := by
        unfold keys at h ⊢
        rw [List.map_append, List.nodup_append] at h
        exact fun z => h.2.2 _ z _ (List.mem_map.mpr ⟨p, List.mem_cons_self, rfl⟩) rfl
      have e : addT acc p = acc ++ [p] := by
        unfold addT
        rw [put_new hn, getT_out (fun q hq eq => hn (List.mem_map.mpr ⟨q, hq, eq⟩))]
        have : (p.1, (0 : Int) + p.2) = p := Prod.ext rfl (by show 0 + p.2 = p.2; omega)
        rw [this]
      rw [e, ih (acc ++ [p]) (by rw [List.append_assoc]; exact h), List.append_assoc]; rfl
  exact this ps [] h
theorem lowT_len (t : Bag) (s : Int) : (lowT t s).length ≤ t.length := List.length_filterMap_le _ _
theorem lowT_less : ∀ {t : Bag} {s : Int} {p : Str × Int}, p ∈ t → p.2 ≤ s → (lowT t s).length < t.length
  | q :: r, s, p, hp, h => by
    rw [lowT_cons]
    rcases List.mem_cons.mp hp with rfl | hp
    · rw [if_neg (by omega)]
      have := lowT_len r s
      simp only [List.nil_append, List.length_cons]; omega
    · have := lowT_less hp h
      simp only [List.length_append, List.length_cons]
      split <;> simp <;> omega
theorem lowT_take (t : Bag) (s : Int) (i : Nat) (hn : (keys t).Nodup) {p : Str × Int} (e : t[i]? = some p) (h : s < p.2) : putT (lowT (t.take i) s) p.1 (p.2 - s) = lowT (t.take (i + 1)) s := by
  have hn' : p.1 ∉ keys (lowT (t.take i) s) := fun z => by
    have z2 := lowT_keys z
    obtain ⟨hi, e2⟩ := List.getElem?_eq_some_iff.mp e
    have : (keys (t.take i ++ t.drop i)).Nodup := by rw [List.take_append_drop]; exact hn
    unfold keys at this z2
    rw [List.map_append, List.nodup_append] at this
    exact this.2.2 _ z2 _ (List.mem_map.mpr ⟨p, by rw [List.drop_eq_getElem_cons hi, e2]; exact List.mem_cons_self, rfl⟩) rfl
  rw [put_new hn', take_succ_snoc e]
  unfold lowT
  rw [List.filterMap_append, List.filterMap_cons, if_pos h]; rfl
theorem lowT_skip (t : Bag) (s : Int) (i : Nat) {p : Str × Int} (e : t[i]? = some p) (h : ¬ s < p.2) : lowT (t.take (i + 1)) s = lowT (t.take i) s := by
  rw [take_succ_snoc e]
  unfold lowT
  rw [List.filterMap_append, List.filterMap_cons, if_neg h]; simp
theorem lowT_get {t : Bag} (h : TabOk t) {s : Int} (hs : 0 ≤ s) (n : Str) : getT (lowT t s) n = posI (getT t n - s) := by
  have hl := h.low s
  unfold posI
  by_cases k : n ∈ keys t
  · obtain ⟨q, hq, rfl⟩ := List.mem_map.mp k
    rw [getT_mem h.nd hq]
    by_cases z : s < q.2
    · rw [if_pos (by omega)]
      have : (q.1, q.2 - s) ∈ lowT t s := List.mem_filterMap.mpr ⟨q, hq, if_pos z⟩
      exact getT_mem hl.nd this
    · rw [if_neg (by omega)]
      refine getT_out fun p hp e => ?_
      obtain ⟨h1, h2⟩ := lowT_mem hp
      have e3 := getT_mem h.nd h1
      have e4 := getT_mem h.nd hq
      rw [← e] at e4
      have e3' : getT t p.1 = p.2 + s := e3
      omega
  · rw [getT_out (fun q hq eq => k (List.mem_map.mpr ⟨q, hq, eq⟩)), if_neg (by omega)]
    exact getT_out fun p hp e => k (e ▸ lowT_keys (List.mem_map.mpr ⟨p, hp, rfl⟩))
theorem minV_mem {t : Bag} (h : t ≠ []) : ∃ p ∈ t, p.2 = minV t := by
  obtain ⟨h1, _⟩ := minL_spec (l := t.map (·.2)) (by simpa using h)
  exact List.mem_map.mp h1
theorem minV_le {t : Bag} {p : Str × Int} (h : p ∈ t) : minV t ≤ p.2 := (minL_spec (l := t.map (·.2)) (by intro z; rw [List.map_eq_nil_iff] at z; rw [z] at h; cases h)).2 _ (List.mem_map.mpr ⟨p, h, rfl⟩)
theorem putT_len' (t : Bag) (n : Str) (c : Int) : (putT t n c).length = if n ∈ keys t then t.length else t.length + 1 := by
  have e := congrArg List.length (put_keys t n c)
  unfold keys addN at e
  rw [List.length_map] at e
  rw [e]
  unfold keys
  split <;> simp
theorem arrT_ok {c : Int} {t : Bag} {n : Str} {m : Int} (h : ArrOk c t) (hm : 1 ≤ m) : ArrOk c (arrT c t n m).1 := by
  unfold arrT
  by_cases z : n ∈ keys t ∨ (t.length : Int) ≠ c
  · rw [if_pos z]
    refine ⟨h.tab.put (by have := getT_pos h.tab n; omega), ?_, h.cap⟩
    show ((putT t n (getT t n + m)).length : Int) ≤ c
    rw [putT_len']
    have := h.len
    split
    · exact this
    · rename_i k
      have := z.resolve_left k
      omega
  · rw [if_neg z]
    have zc : (t.length : Int) = c := Classical.byContradiction fun q => z (.inr q)
    have ne := h.ne zc
    obtain ⟨p, hp, e⟩ := minV_mem ne
    by_cases y : m ≤ minV t
    · rw [if_pos y]
      refine ⟨h.tab.low m, ?_, h.cap⟩
      have := lowT_len t m
      have := h.len
      show ((lowT t m).length : Int) ≤ c
      omega
    · rw [if_neg y]
      refine ⟨(h.tab.low _).put (by omega), ?_, h.cap⟩
      show ((putT (lowT t (minV t)) n (m - minV t)).length : Int) ≤ c
      have h1 := lowT_less hp (by omega : p.2 ≤ minV t)
      have h2 := putT_len (lowT t (minV t)) n (m - minV t)
      have := h.len
      omega
theorem arrT_keys {c : Int} {t : Bag} {n : Str} {m : Int} {x : Str} (h : x ∈ keys (arrT c t n m).1) : x ∈ keys t ∨ x = n := by
  unfold arrT at h
  by_cases z : n ∈ keys t ∨ (t.length : Int) ≠ c
  · rw [if_pos z] at h
    have h : x ∈ keys (putT t n (getT t n + m)) := h
    rw [put_keys] at h
    exact addN_mem.mp h
  · rw [if_neg z] at h
    by_cases y : m ≤ minV t
    · rw [if_pos y] at h; exact .inl (lowT_keys h)
    · rw [if_neg y] at h
      have h : x ∈ keys (putT (lowT t (minV t)) n (m - minV t)) := h
      rw [put_keys] at h
      rcases addN_mem.mp h with h | h
      · exact .inl (lowT_keys h)
      · exact .inr h
/-- the sum grows by at most m -/
theorem sumC_put_new {t : Bag} {n : Str} {c : Int} (h : n ∉ keys t) : sumC (putT t n c) = sumC t + c := by
  rw [put_new h, sumC_app]
  have : sumC [(n, c)] = c := by simp [sumC]
  omega
theorem sumC_put : ∀ {t : Bag} {n : Str} {c : Int}, (keys t).Nodup → sumC (putT t n (getT t n + c)) = sumC t + c := by
  intro t n c hn
  by_cases k : n ∈ keys t
  · have aux : ∀ {t : Bag}, (keys t).Nodup → n ∈ keys t → sumC (t.map fun p => if p.1 = n then (p.1, getT t n + c) else p) = sumC t + c := by
      intro t
      induction t with
      | nil => intro _ h; cases h
      | cons p r ih =>
        intro nd h
        have nd' := List.nodup_cons.mp (show (p.1 :: keys r).Nodup from nd)
        rw [List.map_cons, sumC_cons, sumC_cons]
        by_cases e : p.1 = n
        · have er : (r.map fun q => if q.1 = n then (q.1, getT (p :: r) n + c) else q) = r := by
            conv => rhs; rw [← List.map_id r]
            refine List.map_congr_left fun q hq => ?_
            rw [if_neg (fun z => nd'.1 (by rw [e, ← z]; exact List.mem_map.mpr ⟨q, hq, rfl⟩))]; rfl
          rw [er, if_pos e, getT_cons, if_pos e]
          show p.2 + c + sumC r = _
          omega
        · rw [if_neg e, getT_cons, if_neg e]
          have h2 : n ∈ keys r := (List.mem_cons.mp h).resolve_left fun z => e z.symm
          rw [ih nd'.2 h2]; omega
    unfold putT
    rw [if_pos (List.any_eq_true.mpr (by obtain ⟨q, hq, e⟩ := List.mem_map.mp k; exact ⟨q, hq, decide_eq_true e⟩))]
    exact aux hn k
  · rw [sumC_put_new k, getT_out (fun q hq eq => k (List.mem_map.mpr ⟨q, hq, eq⟩))]; omega
theorem sumC_low : ∀ {t : Bag} {s : Int}, (∀ p ∈ t, s ≤ p.2) → sumC (lowT t s) = sumC t - s * t.length
  | [], s, _ => by simp [lowT, sumC]
  | p :: r, s, h => by
    rw [lowT_cons, sumC_app, sumC_cons, sumC_low fun q hq => h q (List.mem_cons_of_mem _ hq), List.length_cons]
    have hp := h p List.mem_cons_self
    have e : s * ((r.length + 1 : Nat) : Int) = s * (r.length : Int) + s := by rw [Int.natCast_add, Int.mul_add]; simp
    by_cases z : s < p.2
    · rw [if_pos z]
      have : sumC [(p.1, p.2 - s)] = p.2 - s := by simp [sumC]
      omega
    · rw [if_neg z]
      have : sumC [] = 0 := rfl
      omega
/-- what arrives is kept or lost: each loss takes one from each of the c names and from what arrives -/
theorem arrT_sum {c : Int} {t : Bag} {n : Str} {m : Int} (h : ArrOk c t) (hm : 1 ≤ m) : sumC (arrT c t n m).1 + (c + 1) * (arrT c t n m).2 = sumC t + m := by
  unfold arrT
  by_cases z : n ∈ keys t ∨ (t.length : Int) ≠ c
  · rw [if_pos z]
    show sumC (putT t n (getT t n + m)) + (c + 1) * 0 = _
    rw [sumC_put h.tab.nd]; omega
  · rw [if_neg z]
    have zc : (t.length : Int) = c := Classical.byContradiction fun q => z (.inr q)
    have zn : n ∉ keys t := fun q => z (.inl q)
    by_cases y : m ≤ minV t
    · rw [if_pos y]
      show sumC (lowT t m) + (c + 1) * m = _
      rw [sumC_low (fun p hp => Int.le_trans y (minV_le hp)), zc, Int.add_mul, Int.mul_comm m c]
      omega
    · rw [if_neg y]
      show sumC (putT (lowT t (minV t)) n (m - minV t)) + (c + 1) * minV t = _
      rw [sumC_put_new (fun q => zn (lowT_keys q)), sumC_low (fun p hp => minV_le hp), zc, Int.add_mul, Int.mul_comm (minV t) c]
      omega
theorem arrT_lost {c : Int} {t : Bag} {n : Str} {m : Int} (h : ArrOk c t) (hm : 1 ≤ m) : 0 ≤ (arrT c t n m).2 := by
  unfold arrT
  split
  · exact Int.le_refl _
  · rename_i z
    have zc : (t.length : Int) = c := Classical.byContradiction fun q => z (.inr q)
    obtain ⟨p, hp, e⟩ := minV_mem (h.ne zc)
    have := h.tab.pos p hp
    split
    · show 0 ≤ m; omega
    · show 0 ≤ minV t; omega
end TP

namespace TP
open PySem PySem.Spec PyProof.Rows L2
theorem SumV.arr {c : Int} {ps : Bag} (h : SumV c ps) : ArrOk c ps := ⟨h.ok.tab, h.len, h.c1⟩
section
variable {K : PySem.W.Frag} {mg : Str → Option Value} {H H' : Hp} {Q : VK} {v : V} {c : Int} {ps : Bag}
theorem w_sumCap (cl : ClsF K mg "Summary" sumF) (h : SumO K H v c ps) (q : Q (.int c) H) : FldC K "capacity" v H Q := by
  obtain ⟨a, dx, b, rfl, h1, h2⟩ := h
  exact w_fldc cl (by decide) h1 rfl q
theorem w_sumCnt (cl : ClsF K mg "Summary" sumF) (h : SumO K H v c ps) (q : ∀ b, Dp K H b (bagD ps) → Q b H) : FldC K "counts" v H Q := by
  obtain ⟨a, dx, b, rfl, h1, h2⟩ := h
  exact w_fldc cl (by decide) h1 (by rfl) (q b h2)
theorem w_sumMt {m : Str} {P : Prop} (h : SumO K H v c ps) (hm : (m != "capacity" && m != "counts") = true) (q : P) : MtC (He.ga K "Summary") m v H P := by
  obtain ⟨a, dx, b, rfl, h1, h2⟩ := h
  have h' := Bool.and_eq_true_iff.mp hm
  refine w_mtc h1 ?_ q
  rw [List.lookup_cons, List.lookup_cons]
  have e1 : (m == "capacity") = false := by simpa [bne] using h'.1
  have e2 : (m == "counts") = false := by simpa [bne] using h'.2
  rw [e1, e2]; rfl
theorem w_isSum (cl : ClsF K mg "Summary" sumF) (h : SumO K H v c ps) (q : Q (.bl true) H) : rIsi K [v, .ref (He.ga K "Summary")] H Q := by
  obtain ⟨a, dx, b, rfl, h1, h2⟩ := h
  exact w_isiT cl h1 q
theorem w_mkSum {sp : Sp} {js : List Nat} {dvs vs zs : List V} {b : V} {E : XK} (hp : ∀ x, pick js ((V.ref x :: vs) ++ zs ++ dvs) = [.ref x, .int c, b]) (hd : Dp K H b (bagD ps)) (hv : SumV c ps) (k : ∀ v H', Same H H' → SumO K H' v c ps → Q v H') (hsp : sp = spInit K := by rfl) :
    MkG (He.ga K "Summary") sp js dvs vs zs H Q E := by
  subst hsp
  intro x dx hx hdx ne
  rw [hp x]
  have s1 : Same H (upd (upd H dx (.own x)) x (.ins (He.ga K "Summary") dx [])) := same_step (same_new hdx) (by rw [upd_ne ne.symm]; exact hx)
  refine ⟨x, dx, c, ps, b, rfl, upd_same, dp_same s1 hd, hv, fun H' sb e => ⟨rfl, k _ _ (fun z o ez => sb z o (ne_of_none ez hx) (s1 z o ez)) ⟨x, dx, b, rfl, e, ?_⟩⟩⟩
  exact dp_flat (fun z o ez nl _ => sb z o (ne_of_none ez hx) (s1 z o ez)) hd (flat_bag ps)
end
/-- a summary's counts after the table of another of the same numbers -/
theorem can_sum {c : Int} {t ps : Bag} (h : ArrOk c t) (c8 : c ≤ 8) (hc : IsCan (fun n => posI (getT t n)) ps) (hn : ∀ p ∈ ps, isName p.1 = true) : SumV c ps ∧ ps.Perm t := by
  have p := can_tab h.tab hc
  exact ⟨⟨h.cap, c8, hc.ok hn, by rw [p.length_eq]; exact h.len⟩, p⟩
theorem sum_shows {c : Int} {ps : Bag} (h : SumV c ps) (hs : sumC ps ≤ 10 ^ 100) : Shows (.list [.int c, bagD ps]) := by
  have hl := h.len
  have h8 := h.c8
  have h1 := h.c1
  have hb : BagS ps := h.ok.s fun p hp => Int.le_trans (mem_le (fun q hq => by have := h.ok.pos q hq; omega) p hp) hs
  obtain ⟨i1, i2, i3⟩ := bag_shows_aux ps hb
  have hc : okD (.int c) = true := decide_eq_true (log2_le c (by omega) (Int.le_trans h8 (by decide)))
  refine ⟨?_, ?_, ?_⟩
  · show (okD (.int c) && (okDs (ps.map pairD) && true)) = true
    rw [hc, i1]; rfl
  · show (1921 + 2 + (rbs (ps.map pairD) + 3 + 2 + 0)) + 2 ≤ _
    have : ps.length ≤ 8 := by omega
    omega
  · show max 0 (max (PyData.depthAll (ps.map pairD) + 1) 0) + 1 ≤ 60
    omega
theorem sum_dp {K : PySem.W.Frag} {H : Hp} {l : Addr} {c : Int} {b : V} {ps : Bag} (h : SqL K H l [.int c, b]) (hb : Dp K H b (bagD ps)) : Dp K H (.ref l) (.list [.int c, bagD ps]) := .lst h (.cons (.int c) (.cons hb .nil))
theorem arr_sum_le {c : Int} {t : Bag} {n : Str} {m : Int} (h : ArrOk c t) (hm : 1 ≤ m) : sumC (arrT c t n m).1 ≤ sumC t + m := by
  have h1 := arrT_sum (n := n) h hm
  have h2 := arrT_lost (n := n) h hm
  have h3 : 0 ≤ (c + 1) * (arrT c t n m).2 := Int.mul_nonneg (by have := h.cap; omega) h2
  omega
theorem sumC_perm {a b : Bag} (h : a.Perm b) : sumC a = sumC b := by
  induction h with
  | nil => rfl
  | cons x _ ih => rw [sumC_cons, sumC_cons, ih]
  | swap x y l => rw [sumC_cons, sumC_cons, sumC_cons, sumC_cons]; omega
  | trans _ _ h1 h2 => rw [h1, h2]
theorem all_true {acc : List V} (hf : ∀ (i : Nat) (y : V), acc[i]? = some y → y = .bl true) : acc = (List.replicate acc.length true).map V.bl := by
  refine List.ext_getElem? fun i => ?_
  cases z : acc[i]? with
  | none => rw [List.getElem?_eq_none (by simpa using List.getElem?_eq_none_iff.mp z)]
  | some y =>
    rw [hf i y z]
    obtain ⟨h, _⟩ := List.getElem?_eq_some_iff.mp z
    simp [h]
theorem w_allT {K : PySem.W.Frag} {H : Hp} {Q : VK} {a : Addr} {acc : List V} (hs : H a = some (.lst acc)) (hf : ∀ (i : Nat) (y : V), acc[i]? = some y → y = .bl true) (h : Q (.bl true) H) : rAll K [.ref a] H Q := by
  rw [all_true hf] at hs
  refine w_all (SqL.of hs) ?_
  have e2 : (List.replicate acc.length true).all id = true := by simp
  rw [e2]; exact h
theorem cutL_hi {α : Type} {xs : List α} {k : Nat} : cutL xs none (some (k : Int)) = xs.take k := by
  unfold cutL
  rw [HT.sIx_none, HT.sIx_nat]
  simp
theorem cutL_lo {α : Type} {xs : List α} {k : Nat} : cutL xs (some (k : Int)) none = xs.drop k := by
  unfold cutL
  rw [HT.sIx_none, HT.sIx_nat]
  by_cases h : k ≤ xs.length
  · rw [Nat.min_eq_left h, List.take_of_length_le (by simp)]
  · have h' : xs.length ≤ k := by omega
    rw [Nat.min_eq_right h', List.drop_of_length_le (Nat.le_refl _), List.drop_of_length_le h']
    simp
theorem w_slD {K : PySem.W.Frag} {H : Hp} {Q : VK} {v : V} {ds : List PyData} {lo hi : Option Int} (h : Dp K H v (.tuple ds)) (k : ∀ v' H', Same H H' → Dp K H' v' (.tuple (cutL ds lo hi)) → Q v' H') : rSlA K v lo hi H Q := by
  obtain ⟨a, xs, rfl, hs, hx⟩ := dp_tup_inv h
  have hl := dps_len hx
  refine ⟨a, xs, rfl, hs, fun e => ?_, fun _ p hp => ?_⟩
  · refine k _ _ (Same.refl _) ?_
    have : cutL ds lo hi = ds := by
      unfold cutL
      rw [← hl, e.1, e.2, hl]
      simp
    rw [this]; exact h
  · refine k _ _ (same_new hp) (.tup (SqT.of upd_same) (dps_same (same_new hp) ?_))
    unfold cutL cutV
    rw [hl]
    exact dps_take _ (dps_drop _ hx)
end TP

namespace TP
open PySem PySem.Spec PyProof.Rows L2
theorem k_sortedRev {X : Cx} (K : PySem.W.Frag) (h : X.K = K := by rfl) : CallRK X (.builtin "sorted") [Str.ofString "reverse"] (rSortedKw K true [.bl true]) := by subst h; exact cr_sortedRev
section
variable {K : PySem.W.Frag} {σ : L2.St} {H : Hp} {Q : VK} {t tk : TA} {a : Addr}
theorem w_ckw {r : List V → List V → Hp → VK → Prop} (h : t σ H fun vs H1 => tk σ H1 fun zs H2 => r vs zs H2 Q) : tCKw r t tk σ H Q := h
theorem w_sortedR {ns : List Int} (hs : SqL K H a (ns.map V.int)) (h : ∀ (ns' : List Int) (p : Addr), ns'.Perm ns → ns'.Pairwise (· ≥ ·) → H p = none → Q (.ref p) (upd H p (.lst (ns'.map V.int)))) : rSortedKw K true [.bl true] [.ref a] [.bl true] H Q := ⟨a, ns, rfl, rfl, hs, h⟩
end
theorem cut_unique {s t : Bag} {c x y : Int} (h1 : CutR s c x) (h2 : CutR t c y) (h : s.Perm t) : x = y := by
  obtain ⟨a, pa, oa, rfl⟩ := h1
  obtain ⟨b, pb, ob, rfl⟩ := h2
  have e : a = b := List.Perm.eq_of_pairwise (le := (· ≥ ·)) (fun a b _ _ h1 h2 => Int.le_antisymm h2 h1) oa ob (pa.trans ((h.map _).trans pb.symm))
  rw [e]
theorem cut_nonneg {t : Bag} {c x : Int} (ht : TabOk t) (h0 : 0 ≤ c) (h : CutR t c x) : 0 ≤ x := by
  obtain ⟨ns, pn, on, rfl⟩ := h
  split
  · rename_i hl
    have hi : c.toNat < ns.length := by omega
    have hm : ns.getD c.toNat 0 ∈ ns := by simp [List.getD, hi]
    obtain ⟨p, hp, e⟩ := List.mem_map.mp (pn.mem_iff.mp hm)
    have := ht.pos p hp
    omega
  · exact Int.le_refl _
/-- at most c numbers are above the cut -/
theorem cut_few {t : Bag} {c : Nat} {x : Int} (h : CutR t (c : Int) x) : (t.filter fun p => decide (x < p.2)).length ≤ c := by
  obtain ⟨ns, pn, on, rfl⟩ := h
  have e1 : (t.filter fun p => decide ((if (c : Int) < (ns.length : Int) then ns.getD (c : Int).toNat 0 else 0) < p.2)).length = (ns.filter fun i => decide ((if (c : Int) < (ns.length : Int) then ns.getD (c : Int).toNat 0 else 0) < i)).length := by
    have h2 := (pn.filter fun i => decide ((if (c : Int) < (ns.length : Int) then ns.getD (c : Int).toNat 0 else 0) < i)).length_eq
    rw [h2, List.filter_map, List.length_map]
    rfl
  rw [e1]
  split
  · rename_i hl
    have hi : c < ns.length := by omega
    have ec : ns.getD (c : Int).toNat 0 = ns[c] := by simp [List.getD, hi]
    rw [ec]
    have e2 : ns = ns.take c ++ ns.drop c := (List.take_append_drop c ns).symm
    have e3 : (ns.drop c).filter (fun i => decide (ns[c] < i)) = [] := by
      rw [List.filter_eq_nil_iff]
      intro i hm
      obtain ⟨j, hj, rfl⟩ := List.mem_iff_getElem.mp hm
      rw [List.getElem_drop]
      have : ns[c + j]'(by rw [List.length_drop] at hj; omega) ≤ ns[c] := by
        by_cases z : j = 0
        · subst z; exact Int.le_refl _
        · exact List.pairwise_iff_getElem.mp on c (c + j) hi (by rw [List.length_drop] at hj; omega) (by omega)
      simpa using this
    rw [show (ns.filter fun i => decide (ns[c] < i)) = ((ns.take c ++ ns.drop c).filter fun i => decide (ns[c] < i)) by rw [← e2], List.filter_append, e3, List.append_nil]
    exact Nat.le_trans (List.length_filter_le _ _) (by rw [List.length_take]; omega)
  · rename_i hl
    exact Nat.le_trans (List.length_filter_le _ _) (by omega)
theorem tab_ok {ps : Bag} (h : ∀ p ∈ ps, 1 ≤ p.2) : TabOk (tabOf ps) := by
  have nd : (keys (tabOf ps)).Nodup := by show ((tabOf ps).map (·.1)).Nodup; rw [tabOf_keys]; exact namesOf_nodup _
  refine ⟨nd, fun p hp => ?_⟩
  have e := getT_mem nd hp
  rw [getT_tabOf] at e
  have hk : p.1 ∈ keys (tabOf ps) := List.mem_map.mpr ⟨p, hp, rfl⟩
  have hk2 : p.1 ∈ ps.map (·.1) := by
    have : p.1 ∈ (tabOf ps).map (·.1) := hk
    rw [tabOf_keys] at this
    exact namesOf_mem.mp this
  obtain ⟨q, hq, e2⟩ := List.mem_map.mp hk2
  have := cnt_some h hq
  rw [e2] at this
  omega
theorem merge_unique {c : Int} {ps qs r s : Bag} (h1 : MergeR c ps qs r) (h2 : MergeR c ps qs s) : r = s := by
  obtain ⟨x, a1, a2⟩ := h1
  obtain ⟨y, b1, b2⟩ := h2
  have e := cut_unique a1 b1 (List.Perm.refl _)
  subst e
  exact can_unique a2 b2
theorem merge_len {c : Nat} {ps qs r : Bag} (hp : ∀ p ∈ ps ++ qs, 1 ≤ p.2) (h : MergeR (c : Int) ps qs r) : r.length ≤ c := by
  obtain ⟨x, a1, a2⟩ := h
  have hT := tab_ok hp
  have hf := cut_few a1
  have h0 := cut_nonneg hT (by omega) a1
  refine Nat.le_trans ?_ hf
  have : r.length = (r.map (·.1)).length := by rw [List.length_map]
  rw [this, ← List.length_map (f := (·.1)) (as := (tabOf (ps ++ qs)).filter fun p => decide (x < p.2))]
  refine nodup_sub_len (asc_nodup a2.asc) fun n hn => ?_
  obtain ⟨p, hpp, rfl⟩ := List.mem_map.mp hn
  have e := can_nam a2 hpp
  have pp := a2.pos p hpp
  have e2 : posI (cntC (ps ++ qs) p.1 - x) = p.2 := e
  unfold posI at e2
  split at e2
  · rename_i z
    rw [← getT_tabOf] at z
    have hk : p.1 ∈ keys (tabOf (ps ++ qs)) := Classical.byContradiction fun q => by
      rw [getT_out (fun w hw eq => q (List.mem_map.mpr ⟨w, hw, eq⟩))] at z
      omega
    obtain ⟨w, hw, ew⟩ := List.mem_map.mp hk
    refine List.mem_map.mpr ⟨w, List.mem_filter.mpr ⟨hw, ?_⟩, ew⟩
    rw [← ew, getT_mem hT.nd hw] at z
    exact decide_eq_true (by omega)
  · omega
theorem merge_names {c : Int} {ps qs r : Bag} (h0 : 0 ≤ c) (hp : ∀ p ∈ ps ++ qs, 1 ≤ p.2) (h : MergeR c ps qs r) : ∀ p ∈ r, p.1 ∈ (ps ++ qs).map (·.1) ∧ p.2 ≤ cntC (ps ++ qs) p.1 := by
  obtain ⟨x, a1, a2⟩ := h
  have h0 := cut_nonneg (tab_ok hp) h0 a1
  intro p hpp
  have e : posI (cntC (ps ++ qs) p.1 - x) = p.2 := can_nam a2 hpp
  have pp := a2.pos p hpp
  unfold posI at e
  split at e
  · refine ⟨Classical.byContradiction fun z => ?_, by omega⟩
    have : cntC (ps ++ qs) p.1 = 0 := by
      unfold cntC
      rw [List.filter_eq_nil_iff.mpr fun q hq => by simpa using fun e : q.1 = p.1 => z (List.mem_map.mpr ⟨q, hq, e⟩)]; rfl
    omega
  · omega
theorem subT_keys (t : Bag) (x : Int) : keys (subT t x) = keys t := by unfold subT keys; rw [List.map_map]; rfl
theorem subT_take (t : Bag) (x : Int) (i : Nat) (hn : (keys t).Nodup) {p : Str × Int} (e : t[i]? = some p) : putT (subT (t.take i) x) p.1 (p.2 - x) = subT (t.take (i + 1)) x := by
  have hn' : p.1 ∉ keys (subT (t.take i) x) := fun z => by
    rw [subT_keys] at z
    obtain ⟨hi, e2⟩ := List.getElem?_eq_some_iff.mp e
    have : (keys (t.take i ++ t.drop i)).Nodup := by rw [List.take_append_drop]; exact hn
    unfold keys at this z
    rw [List.map_append, List.nodup_append] at this
    exact this.2.2 _ z _ (List.mem_map.mpr ⟨p, by rw [List.drop_eq_getElem_cons hi, e2]; exact List.mem_cons_self, rfl⟩) rfl
  rw [put_new hn', take_succ_snoc e]
  unfold subT
  rw [List.map_append]; rfl
theorem subT_get {t : Bag} {x : Int} (h0 : 0 ≤ x) (hn : (keys t).Nodup) (n : Str) : posI (getT (subT t x) n) = posI (getT t n - x) := by
  by_cases k : n ∈ keys t
  · obtain ⟨q, hq, rfl⟩ := List.mem_map.mp k
    have : (q.1, q.2 - x) ∈ subT t x := List.mem_map.mpr ⟨q, hq, rfl⟩
    rw [getT_mem hn hq]
    have e := getT_mem (by rw [show (subT t x).map (·.1) = keys t from subT_keys t x]; exact hn) this
    rw [show getT (subT t x) q.1 = q.2 - x from e]
  · have h1 : getT t n = 0 := getT_out (fun w hw eq => k (List.mem_map.mpr ⟨w, hw, eq⟩))
    have h2 : getT (subT t x) n = 0 := getT_out (fun w hw eq => k (by rw [← subT_keys t x]; exact List.mem_map.mpr ⟨w, hw, eq⟩))
    rw [h1, h2]
    unfold posI
    rw [if_neg (by omega), if_neg (by omega)]
theorem canF_can2 {t : Bag} {ys : List Str} {f : Str → Int} (hf : ∀ n, n ∉ keys t → f n ≤ 0) (hp : ys.Perm (t.map (·.1))) (asc : ys.Pairwise ltS) : IsCan (fun n => posI (f n)) (canF f ys) := by
  refine ⟨canF_asc asc, fun p hp => (canF_mem hp).2.2, fun n => ?_⟩
  rw [canF_get]
  show _ = if 0 < f n then f n else 0
  by_cases z : 0 < f n
  · have : n ∈ ys := hp.mem_iff.mpr (Classical.byContradiction fun q => by have := hf n q; omega)
    rw [if_pos ⟨this, z⟩, if_pos z]
  · rw [if_neg (fun q => z q.2), if_neg z]
end TP

namespace TP
open PySem PySem.Spec PyProof.Rows L2
theorem getT_no {t : Bag} {n : Str} (h : n ∉ keys t) : getT t n = 0 := getT_out fun q hq eq => h (List.mem_map.mpr ⟨q, hq, eq⟩)
end TP

namespace TP
open PySem PySem.Spec PyProof.Rows L2
end TP

namespace TP
open PySem PySem.Spec PyProof.Rows L2
section
variable {K : PySem.W.Frag} {H : Hp} {Q : VK} {a l : Addr} {x : Str} {ws : List Str}
theorem w_intB {k : Bool} (h : Q (.int (if k then 1 else 0)) H) : rInt1 [.bl k] H Q := .inr ⟨k, rfl, h⟩
theorem w_rep {xs : List V} {k : Int} (h1 : H l = some (.lst xs)) (hk : -1000 ≤ k ∧ k ≤ 1000) (hz : xs.length * k.toNat ≤ 100000) (h : ∀ p, H p = none → Q (.ref p) (upd H p (.lst (List.replicate k.toNat xs).flatten))) : rRep (.ref l) (.int k) H Q := ⟨l, k, xs, rfl, rfl, h1, by omega, by omega, sz_le hz, h⟩
end
theorem strOk_name {x : Str} (h : isName x = true) : PyData.strOk x = true := by
  unfold PyData.strOk
  rw [← Array.all_toList, List.all_eq_true]
  intro c hc
  have := List.all_eq_true.mp (isName_let h) c hc
  unfold isLet at this
  have h2 := of_decide_eq_true (Bool.and_eq_true_iff.mp this).2
  exact decide_eq_true (by omega)
end TP

namespace TP
open PySem PySem.Spec PyProof.Rows L2
section
variable {X : Cx} {CX : CXT} {k n : Nat} {f : Addr} {fd : FuncData} {C m q : Str} {st : Stmt} {ps : List Str} {js : List Nat} {sp : Sp} {E : XK} {fs : List Str} {g : List Value → List Value → List Value} {gV : List V → List V → List V}
theorem run_at {A' : Around} {pins : List (Addr × Obj)} {σ : L2.St} {H : Hp} {s : Shared} {Q : VK} {us : List Value} {vs : List V} (F : FnG X.prog X.w X.K X.mg X.base CX k f fd ps sp) (hb : KBn X.K fd ps n [] g gV) (hfr : A'.frames = X.A.frames) (hr : Room k A') (hg : A'.guards = some []) (hx : Passes CX X E)
    (I : Inv X pins σ H s) (r : Vals vs us) (l1 : vs.length = n) (h : sp (gV vs []) H Q E) : wpAny (model X.prog X.w) A' (call (.ref f) us) (EP X pins σ Q) X.xe s := by
  have e0 : Env0 X.prog X.w X.K X.mg X.base A' X.stack s H := by
    have e := I.env0
    exact ⟨by rw [hfr]; exact e.frames, e.mod, e.bs, e.bsz, e.funs, e.frf, e.hok, e.bare⟩
  have b := hb.to s us [] I.kIn (by rw [← r.length]; exact l1) rfl
  refine wpAny_call (codeAny_mono (F.run A' X.stack s H ⟨us, []⟩ (g us []) (gV vs []) Q E hr hg e0 b (hb.rel r .nil) h) fun z s' hq => ?_)
  cases z with
  | error e => exact hx pins σ H s e s' I hq
  | ok fl =>
    cases fl with
    | ret u => exact I.after hq
    | next => exact hq.elim
    | brk => exact hq.elim
    | cont => exact hq.elim
theorem k_lenO (F : HasM X.prog X.w X.K X.mg X.base CX k C "__len__" q st [] ps sp) (hb : BindJ "__len__" q st ps 0 1 [] js) (hr : Room (k + 1) X.A) (hg : X.A.guards = some []) (hx : Passes CX X E) : CallR X (.builtin "len") (rLenO (He.ga X.K C) sp js E) := by
  intro pins s σ H xs us Q I r h
  obtain ⟨a, dx, fl, rfl, ha, hq⟩ := h
  obtain ⟨u, rfl, ru⟩ := vals1 r
  have eu : u = .ref a := ru
  subst eu
  obtain ⟨fd, FD, G⟩ := F.ex
  obtain ⟨g, B⟩ := kbn FD hb
  obtain ⟨mA, J, _⟩ := ins_get I.hok ha
  obtain ⟨od, J, _⟩ := J.look
  obtain ⟨m, hF⟩ := I.fr
  refine PySem.W.len_K hF I.ok.mod.kin J F.mt.at_ F.mt.fn ?_
  refine wpAny_mono (run_at (A' := X.A.in1) (vs := [.ref a]) G B rfl hr.in1 hg hx I (.cons rfl .nil) rfl hq) (fun u s' q => ?_) fun _ _ x => x
  obtain ⟨v, H', I', rv, n, rfl, h0, h1, q⟩ := q
  obtain ⟨t, rfl⟩ := rv
  exact ⟨⟨h0, h1⟩, .int n, H', I'.tok _, ⟨_, rfl⟩, q⟩
theorem k_reprO (F : HasM X.prog X.w X.K X.mg X.base CX k C "__repr__" q st [] ps sp) (hb : BindJ "__repr__" q st ps 0 1 [] js) (hr : Room (k + 1) X.A) (hg : X.A.guards = some []) (hx : Passes CX X E) : CallR X (.builtin "repr") (rStrO (He.ga X.K C) sp js E) := by
  intro pins s σ H xs us Q I r h
  obtain ⟨a, dx, fl, rfl, ha, hq⟩ := h
  obtain ⟨u, rfl, ru⟩ := vals1 r
  have eu : u = .ref a := ru
  subst eu
  obtain ⟨fd, FD, G⟩ := F.ex
  obtain ⟨g, B⟩ := kbn FD hb
  obtain ⟨mA, J, _⟩ := ins_get I.hok ha
  obtain ⟨od, J, _⟩ := J.look
  obtain ⟨m, hF⟩ := I.fr
  refine PySem.W.repr_K (by have := hr.in1.un; omega) hF I.ok.mod.kin J F.mt.at_ F.mt.fn ?_
  refine wpAny_mono (run_at (A' := X.A.in1) (vs := [.ref a]) G B rfl hr.in1 hg hx I (.cons rfl .nil) rfl hq) (fun u s' q => ?_) fun _ _ x => x
  obtain ⟨v, H', I', rv, y, rfl, q⟩ := q
  obtain ⟨t, rfl⟩ := rv
  exact ⟨.str y, H', I', ⟨_, rfl⟩, q⟩
theorem k_strO (F : HasM X.prog X.w X.K X.mg X.base CX k C "__str__" q st [] ps sp) (hb : BindJ "__str__" q st ps 0 1 [] js) (hr : Room (k + 2) X.A) (hg : X.A.guards = some []) (hx : Passes CX X E) : CallR X (.type "str") (rStrO (He.ga X.K C) sp js E) := by
  intro pins s σ H xs us Q I r h
  obtain ⟨a, dx, fl, rfl, ha, hq⟩ := h
  obtain ⟨u, rfl, ru⟩ := vals1 r
  have eu : u = .ref a := ru
  subst eu
  obtain ⟨fd, FD, G⟩ := F.ex
  obtain ⟨g, B⟩ := kbn FD hb
  obtain ⟨mA, J, _⟩ := ins_get I.hok ha
  obtain ⟨od, J, _⟩ := J.look
  refine PySem.W.kso_call (by have := hr.in1.in1.un; omega) I.kIn J F.mt.at_ F.mt.fn ?_
  refine wpAny_mono (run_at (A' := X.A.in1.in1) (vs := [.ref a]) G B rfl hr.in1.in1 hg hx I (.cons rfl .nil) rfl hq) (fun u s' q => ?_) fun _ _ x => x
  obtain ⟨v, H', I', rv, y, rfl, q⟩ := q
  obtain ⟨t, rfl⟩ := rv
  exact ⟨.str y, H', I', ⟨_, rfl⟩, q⟩
end
section
variable {prog : Program} {w : World} {A : Around} {E : Value → Shared → Prop} {s : Shared} {K : PySem.W.Frag} {x C f : Addr} {ox : Obj} {od : Option Obj}
end
section
variable {X : Cx} {CX : CXT} {k n : Nat} {f : Addr} {fd : FuncData} {C m q : Str} {st : Stmt} {ps : List Str} {js : List Nat} {sp : Sp} {E : XK}
end
section
variable {X : Cx} {CX : CXT} {k n : Nat} {C q : Str} {st : Stmt} {ps : List Str} {js : List Nat} {sp : Sp} {E : XK} {fs : List Str} (K : PySem.W.Frag)
theorem s_len (F : HasM X.prog X.w K X.mg X.base CX k C "__len__" q st [] ps sp) (hb : BindJ "__len__" q st ps 0 1 [] js) (hr : Room (k + 1) X.A) (hg : X.A.guards = some []) (hx : Passes CX X E) (hK : X.K = K := by rfl) : CallR X (.builtin "len") (rLenO (He.ga K C) sp js E) := by subst hK; exact k_lenO F hb hr hg hx
theorem s_repr (F : HasM X.prog X.w K X.mg X.base CX k C "__repr__" q st [] ps sp) (hb : BindJ "__repr__" q st ps 0 1 [] js) (hr : Room (k + 1) X.A) (hg : X.A.guards = some []) (hx : Passes CX X E) (hK : X.K = K := by rfl) : CallR X (.builtin "repr") (rStrO (He.ga K C) sp js E) := by subst hK; exact k_reprO F hb hr hg hx
theorem s_str (F : HasM X.prog X.w K X.mg X.base CX k C "__str__" q st [] ps sp) (hb : BindJ "__str__" q st ps 0 1 [] js) (hr : Room (k + 2) X.A) (hg : X.A.guards = some []) (hx : Passes CX X E) (hK : X.K = K := by rfl) : CallR X (.type "str") (rStrO (He.ga K C) sp js E) := by subst hK; exact k_strO F hb hr hg hx
end
section
variable {K : PySem.W.Frag} {H : Hp} {Q : VK} {v w : V} {c d : Int} {ps qs : Bag} {sp : Sp} {js : List Nat} {E : XK}
theorem w_strSum (h : SumO K H v c ps) (q : sp (pick js ([v] ++ [] ++ [])) H (fun v H' => ∃ y : Str, v = .str y ∧ Q (.str y) H') E) : rStrO (He.ga K "Summary") sp js E [v] H Q := by
  obtain ⟨a, dx, b, rfl, h1, h2⟩ := h
  exact ⟨a, dx, _, rfl, h1, q⟩
end
end TP

namespace TP
open PySem PySem.Spec PyProof.Rows L2
theorem sum_set (n : Str) (c : Int) : ∀ t : Bag, (keys t).Nodup → n ∈ keys t → sumC (t.map fun p => if p.1 = n then (p.1, c) else p) = sumC t - getT t n + c
  | [], _, h => by cases h
  | p :: r, nd, h => by
    have nd' := List.nodup_cons.mp (show (p.1 :: keys r).Nodup from nd)
    rw [List.map_cons, sumC_cons, sumC_cons, getT_cons]
    by_cases e : p.1 = n
    · rw [if_pos e, if_pos e]
      have hr : ∀ q ∈ r, q.1 ≠ n := fun q hq eq => nd'.1 (by rw [e, ← eq]; exact List.mem_map.mpr ⟨q, hq, rfl⟩)
      have : (r.map fun q => if q.1 = n then (q.1, c) else q) = r := by
        conv => rhs; rw [← List.map_id r]
        refine List.map_congr_left fun q hq => ?_
        rw [if_neg (hr q hq)]; rfl
      rw [this]
      show c + sumC r = p.2 + sumC r - p.2 + c
      omega
    · rw [if_neg e, if_neg e]
      have hn : n ∈ keys r := by
        rcases List.mem_cons.mp (show n ∈ p.1 :: keys r from h) with q | q
        · exact absurd q.symm e
        · exact q
      rw [sum_set n c r nd'.2 hn]
      omega
theorem sum_put {t : Bag} (nd : (keys t).Nodup) (n : Str) (c : Int) : sumC (putT t n c) = sumC t - getT t n + c := by
  by_cases h : n ∈ keys t
  · have : putT t n c = t.map fun p => if p.1 = n then (p.1, c) else p := by
      unfold putT
      rw [if_pos]
      obtain ⟨q, hq, e⟩ := List.mem_map.mp h
      exact List.any_eq_true.mpr ⟨q, hq, decide_eq_true e⟩
    rw [this]
    exact sum_set n c t nd h
  · rw [put_new h, sumC_app, getT_no h]
    have : sumC [(n, c)] = c := by simp [sumC]
    omega
theorem sum_foldl : ∀ (ps t : Bag), (keys t).Nodup → sumC (ps.foldl addT t) = sumC t + sumC ps
  | [], t, _ => by show sumC t = sumC t + 0; omega
  | p :: r, t, nd => by
    rw [List.foldl_cons, sum_foldl r (addT t p) (by unfold addT; rw [put_keys]; exact addN_nodup nd), sumC_cons]
    unfold addT
    rw [sum_put nd]
    omega
theorem sum_tab (ps : Bag) : sumC (tabOf ps) = sumC ps := by
  have := sum_foldl ps [] List.nodup_nil
  unfold tabOf
  rw [this]
  have : sumC [] = 0 := rfl
  omega
theorem low_split (x : Int) : ∀ t : Bag, sumC (lowT t x) + (t.map fun p => if x < p.2 then x else p.2).sum = sumC t
  | [] => rfl
  | p :: r => by
    rw [lowT_cons, sumC_app, List.map_cons, List.sum_cons, sumC_cons]
    have ih := low_split x r
    by_cases z : x < p.2
    · rw [if_pos z, if_pos z]
      have : sumC [(p.1, p.2 - x)] = p.2 - x := by simp [sumC]
      omega
    · rw [if_neg z, if_neg z]
      have : sumC [] = 0 := rfl
      omega
theorem sum_ge {x : Int} : ∀ (ns : List Int), (∀ y ∈ ns, x ≤ y) → x * (ns.length : Int) ≤ ns.sum
  | [], _ => by simp
  | y :: r, h => by
    have h1 := h y List.mem_cons_self
    have h2 := sum_ge r fun z hz => h z (List.mem_cons_of_mem _ hz)
    rw [List.sum_cons, List.length_cons]
    have e : x * ((r.length + 1 : Nat) : Int) = x * (r.length : Int) + x := by rw [Int.natCast_add, Int.mul_add]; omega
    omega
theorem sum_pos : ∀ (ns : List Int), (∀ y ∈ ns, 0 ≤ y) → 0 ≤ ns.sum
  | [], _ => by simp
  | y :: r, h => by
    have h1 := h y List.mem_cons_self
    have h2 := sum_pos r fun z hz => h z (List.mem_cons_of_mem _ hz)
    rw [List.sum_cons]; omega
theorem sum_perm {a b : List Int} (h : a.Perm b) : a.sum = b.sum := by
  induction h with
  | nil => rfl
  | cons x _ ih => rw [List.sum_cons, List.sum_cons, ih]
  | swap x y l => rw [List.sum_cons, List.sum_cons, List.sum_cons, List.sum_cons]; omega
  | trans _ _ h1 h2 => rw [h1, h2]
theorem cut_mass {t : Bag} {c : Nat} {x : Int} (ht : TabOk t) (h : CutR t (c : Int) x) : x * ((c + 1 : Nat) : Int) ≤ (t.map fun p => if x < p.2 then x else p.2).sum := by
  have h0 := cut_nonneg ht (by omega) h
  obtain ⟨ns, pn, on, ex⟩ := h
  have e1 : (t.map fun p => if x < p.2 then x else p.2).sum = (ns.map fun i => if x < i then x else i).sum := by
    have : (t.map fun p => if x < p.2 then x else p.2) = (t.map (·.2)).map fun i => if x < i then x else i := by rw [List.map_map]; rfl
    rw [this]
    exact (sum_perm (pn.map _)).symm
  rw [e1]
  have pos : ∀ y ∈ ns, 0 ≤ y := fun y hy => by
    obtain ⟨p, hp, e⟩ := List.mem_map.mp (pn.mem_iff.mp hy)
    have := ht.pos p hp
    omega
  have posm : ∀ l : List Int, (∀ y ∈ l, 0 ≤ y) → ∀ y ∈ l.map (fun i => if x < i then x else i), 0 ≤ y := fun l hl y hy => by
    obtain ⟨i, hi, rfl⟩ := List.mem_map.mp hy
    have := hl i hi
    split <;> omega
  by_cases hl : (c : Int) < (ns.length : Int)
  · rw [if_pos hl] at ex
    have hi : c < ns.length := by omega
    have ec : x = ns[c] := by rw [ex]; simp [List.getD, hi]
    have e2 : ns.map (fun i => if x < i then x else i) = (ns.take (c + 1)).map (fun i => if x < i then x else i) ++ (ns.drop (c + 1)).map (fun i => if x < i then x else i) := by rw [← List.map_append, List.take_append_drop]
    rw [e2, List.sum_append]
    have h3 := sum_pos _ (posm (ns.drop (c + 1)) fun y hy => pos y (List.mem_of_mem_drop hy))
    have h4 := sum_ge (x := x) ((ns.take (c + 1)).map fun i => if x < i then x else i) fun y hy => by
      obtain ⟨i, hi2, rfl⟩ := List.mem_map.mp hy
      obtain ⟨j, hj, rfl⟩ := List.mem_iff_getElem.mp hi2
      rw [List.length_take] at hj
      rw [List.getElem_take]
      have : ns[c] ≤ ns[j]'(by omega) := by
        by_cases z : j = c
        · subst z; exact Int.le_refl _
        · exact List.pairwise_iff_getElem.mp on j c (by omega) hi (by omega)
      split <;> omega
    rw [List.length_map, List.length_take, Nat.min_eq_left (by omega)] at h4
    omega
  · rw [if_neg hl] at ex
    subst ex
    rw [Int.zero_mul]
    exact sum_pos _ (posm ns pos)
theorem merge_facts {c : Nat} {ps qs r : Bag} (hp : ∀ p ∈ ps ++ qs, 1 ≤ p.2) (h : MergeR (c : Int) ps qs r) : ∃ x : Int, 0 ≤ x ∧ (∀ n, getT r n ≤ cntC (ps ++ qs) n ∧ cntC (ps ++ qs) n - x ≤ getT r n) ∧ sumC r + x * ((c + 1 : Nat) : Int) ≤ sumC (ps ++ qs) := by
  obtain ⟨x, a1, a2⟩ := h
  have hT := tab_ok hp
  have h0 := cut_nonneg hT (by omega) a1
  refine ⟨x, h0, fun n => ?_, ?_⟩
  · rw [a2.cnt n]
    have := cnt_pos (ps := ps ++ qs) (fun p hp' => by have := hp p hp'; omega) n
    unfold posI
    split <;> omega
  · have pr : r.Perm (lowT (tabOf (ps ++ qs)) x) := by
      refine tab_perm ⟨asc_nodup a2.asc, fun p hp' => by have := a2.pos p hp'; omega⟩ (hT.low x) fun n => ?_
      rw [a2.cnt n, lowT_get hT h0, getT_tabOf]
    have e1 := low_split x (tabOf (ps ++ qs))
    have e2 := cut_mass hT a1
    rw [sumC_perm pr, ← sum_tab (ps ++ qs)]
    omega
end TP

namespace TP
open PySem PySem.Spec PyProof.Rows L2
theorem empty_app (x : Str) : Str.empty ++ x = x := str_ext (by rw [app_list]; rfl)
theorem app_len (a b : Str) : (a ++ b).length = a.length + b.length := PySem.Str.length_append a b
theorem intS_len {i : Int} (h0 : 0 ≤ i) (h1 : i ≤ 10 ^ 100) : (intS i).length ≤ 1921 := int_text_len_1921 (log2_le i h0 h1)
theorem ptS_len {p : Str × Int} (h : isName p.1 = true) (h0 : 0 ≤ p.2) (h1 : p.2 ≤ 10 ^ 100) : 1 ≤ (ptS p).length ∧ (ptS p).length ≤ 1931 := by
  unfold ptS
  rw [app_len, app_len]
  have := intS_len h0 h1
  have := (isName_len h).2
  have e : Str.length (":" : Str) = 1 := by decide +kernel
  omega
theorem parts_len {ps : Bag} (h : BagS ps) : ((ps.map ptS).map (·.length)).sum + (ps.map ptS).length * Str.length (" " : Str) ≤ 1932 * ps.length := by
  have e : Str.length (" " : Str) = 1 := by decide +kernel
  rw [e]
  induction ps with
  | nil => simp
  | cons p r ih =>
    obtain ⟨h1, h2, h3⟩ := h p List.mem_cons_self
    have h4 := (ptS_len h1 h2 h3).2
    have h5 := ih fun q hq => h q (List.mem_cons_of_mem _ hq)
    simp only [List.map_cons, List.sum_cons, List.length_cons] at h5 ⊢
    omega
theorem join_ne {ps : Bag} (h : BagS ps) (h0 : ps ≠ []) : 1 ≤ (Txt.join (" " : Str) (ps.map ptS)).length := by
  cases ps with
  | nil => exact absurd rfl h0
  | cons p r =>
    obtain ⟨h1, h2, h3⟩ := h p List.mem_cons_self
    have h4 := (ptS_len h1 h2 h3).1
    rw [txt_join_eq]
    cases r with
    | nil => exact h4
    | cons q r =>
      show 1 ≤ (ptS p ++ (" " : Str) ++ Str.join (" " : Str) (ptS q :: r.map ptS)).length
      rw [app_len, app_len]
      omega
theorem join_len {ps : Bag} (h : BagS ps) : (Txt.join (" " : Str) (ps.map ptS)).length ≤ 1932 * ps.length := by
  rw [txt_join_eq]
  exact Nat.le_trans (StrLaws.join_length_le _ _) (parts_len h)
theorem cText_len {ps : Bag} (h : BagS ps) : (cText ps).length ≤ 1932 * ps.length + 1 := by
  unfold cText
  split
  · have : Str.length ("-" : Str) = 1 := by decide +kernel
    omega
  · have := join_len h; omega
theorem k_joined {X : Cx} {v1 v2 : Expr} {rest : List Expr} {ts : List TE} {pos : Pos} (h : PJ X (v1 :: v2 :: rest) ts) : PE X (.JoinedStr (v1 :: v2 :: rest) pos) (tJoined ts) := pe_joined h
theorem c_strI {X : Cx} : CallR X (.type "str") rStrI := call_str_int
theorem c_strS {X : Cx} : CallR X (.type "str") rStrS := SkE.call_str_str
section
variable {K : PySem.W.Frag} {σ : L2.St} {H : Hp} {Q : VK} {QS : Str → Hp → Prop} {te ta tb : TE} {ts : List TE} {acc y : Str} {i : Int}
theorem w_neBl {a b : Bool} (h : Q (.bl (!decide (a = b))) H) : rNe (.bl a) (.bl b) H Q := by
  refine ⟨rfl, ?_⟩
  have e : decide (V.bl a = V.bl b) = decide (a = b) := by
    by_cases z : a = b
    · subst z; simp
    · rw [decide_eq_false z, decide_eq_false fun q => z (V.bl.inj q)]
  rw [e]; exact h
theorem w_eqBl {a b : Bool} (h : Q (.bl (decide (a = b))) H) : rEq (.bl a) (.bl b) H Q := by
  refine ⟨rfl, ?_⟩
  have e : decide (V.bl a = V.bl b) = decide (a = b) := by
    by_cases z : a = b
    · subst z; simp
    · rw [decide_eq_false z, decide_eq_false fun q => z (V.bl.inj q)]
  rw [e]; exact h
theorem w_fmt (h : te σ H fun x H1 => FmtC x H1 Q) : tFmt te σ H Q := h
theorem w_fmtS (hz : y.length ≤ 16777216) (h : Q (.str y) H) : FmtC (.str y) H Q := .inl ⟨y, rfl, by rw [sizeLine_eq]; exact hz, h⟩
theorem w_fmtI (h0 : 0 ≤ i) (h1 : i ≤ 10 ^ 100) (h : Q (.str (intS i)) H) : FmtC (.int i) H Q := .inr ⟨i, rfl, log2_le i h0 h1, h⟩
theorem w_joined (h : tJs ts Str.empty σ H fun out H1 => Q (.str out) H1) : tJoined ts σ H Q := h
theorem w_jcons (h : te σ H fun x H1 => JsC ts acc σ QS x H1) : tJs (te :: ts) acc σ H QS := h
theorem w_jnil (h : QS acc H) : tJs [] acc σ H QS := h
theorem w_jsc (hz : (acc ++ y).length ≤ 16777216) (h : tJs ts (acc ++ y) σ H QS) : JsC ts acc σ QS (.str y) H := ⟨y, rfl, by rw [sizeLine_eq]; exact hz, h⟩
theorem w_strI (h0 : 0 ≤ i) (h1 : i ≤ 10 ^ 100) (h : Q (.str (intS i)) H) : rStrI [.int i] H Q := ⟨i, rfl, log2_le i h0 h1, h⟩
theorem w_strS (h : Q (.str y) H) : rStrS [.str y] H Q := ⟨y, rfl, h⟩
theorem w_orT (h : ta σ H fun x H1 => OrC K tb σ Q x H1) : tOrT K ta tb σ H Q := h
theorem w_andT (h : ta σ H fun x H1 => AndC K tb σ Q x H1) : tAndT K ta tb σ H Q := h
theorem w_orcS (hz : y.length ≤ 16777216) (h1 : 1 ≤ y.length → Q (.str y) H) (h0 : y.length = 0 → tb σ H Q) : OrC K tb σ Q (.str y) H := by
  refine ⟨((y.length : Int) != 0), ⟨by rw [sizeLine_eq]; exact hz, rfl⟩, ?_⟩
  by_cases z : y.length = 0
  · have : ((y.length : Int) != 0) = false := by rw [z]; rfl
    rw [this]; exact w_iteF (h0 z)
  · have : ((y.length : Int) != 0) = true := bne_iff_ne.mpr (by omega)
    rw [this]; exact w_iteT (h1 (by omega))
end
theorem canLay_bag : ∀ {ps : Bag}, (∀ p ∈ ps, isName p.1 = true) → PyData.canLayAll0 (ps.map pairD) = true ∧ PyData.depthAll (ps.map pairD) ≤ 1
  | [], _ => ⟨rfl, by simp [PyData.depthAll]⟩
  | p :: r, h => by
    obtain ⟨i1, i2⟩ := canLay_bag fun q hq => h q (List.mem_cons_of_mem _ hq)
    constructor
    · show ((PyData.strOk p.1 && (true && true)) && PyData.canLayAll0 (r.map pairD)) = true
      rw [strOk_name (h p List.mem_cons_self), i1]; rfl
    · show max (max 0 (max 0 0) + 1) (PyData.depthAll (r.map pairD)) ≤ 1
      omega
theorem shaped_bag {ps : Bag} (h : ∀ p ∈ ps, isName p.1 = true) : SeqAt.shaped (bagD ps) = true := by
  obtain ⟨i1, i2⟩ := canLay_bag h
  show (PyData.canLayAll0 (ps.map pairD) && decide (PyData.depthAll (ps.map pairD) + 1 ≤ 64)) = true
  rw [i1, decide_eq_true (by omega)]; rfl
theorem str_beq (a b : Str) : (a == b) = decide (a = b) := by
  by_cases z : a = b
  · subst z; simp
  · rw [decide_eq_false z, beq_eq_false_iff_ne]; exact z
theorem eqv_bags : ∀ ps qs : Bag, PyData.eqvAll (ps.map pairD) (qs.map pairD) = decide (ps = qs)
  | [], [] => rfl
  | [], _ :: _ => rfl
  | _ :: _, [] => rfl
  | p :: r, q :: t => by
    have ih := eqv_bags r t
    show (((p.1 == q.1) && ((p.2 == q.2) && true)) && PyData.eqvAll (r.map pairD) (t.map pairD)) = _
    rw [ih, str_beq]
    have e2 : (p.2 == q.2) = decide (p.2 = q.2) := by
      by_cases z : p.2 = q.2
      · rw [z]; simp
      · rw [decide_eq_false z, beq_eq_false_iff_ne]; exact z
    rw [e2, Bool.and_true]
    by_cases z1 : p.1 = q.1
    · by_cases z2 : p.2 = q.2
      · by_cases z3 : r = t
        · rw [decide_eq_true z1, decide_eq_true z2, decide_eq_true z3, decide_eq_true (show p :: r = q :: t by rw [z3, Prod.ext z1 z2])]; rfl
        · rw [decide_eq_false z3, decide_eq_false (show ¬ p :: r = q :: t from fun e => z3 (List.cons.inj e).2)]; simp
      · rw [decide_eq_false z2, decide_eq_false (show ¬ p :: r = q :: t from fun e => z2 (by rw [(List.cons.inj e).1]))]; simp
    · rw [decide_eq_false z1, decide_eq_false (show ¬ p :: r = q :: t from fun e => z1 (by rw [(List.cons.inj e).1]))]; simp
theorem eqv_bag (ps qs : Bag) : PyData.eqv (bagD ps) (bagD qs) = decide (ps = qs) := eqv_bags ps qs
section
variable {K : PySem.W.Frag} {H : Hp} {Q : VK} {v w : V} {ps qs : Bag}
theorem w_eqB (h1 : Dp K H v (bagD ps)) (h2 : Dp K H w (bagD qs)) (n1 : ∀ p ∈ ps, isName p.1 = true) (n2 : ∀ p ∈ qs, isName p.1 = true) (h : Q (.bl (decide (ps = qs))) H) : rEqD K v w H Q :=
  w_eqD h1 h2 (shaped_bag n1) (shaped_bag n2) (by rw [eqv_bag]; exact h)
end
end TP

namespace TP
open PySem PySem.Spec PyProof.Rows L2
end TP

namespace TP
open PySem PySem.Spec PyProof.Rows L2
section
variable {prog : Program} {w : World} {A : Around} {E : Value → Shared → Prop} {s : Shared}
end
section
variable {X : Cx}
theorem PairAt.inj {h : Heap} {v : Value} {y z : Str} {i j : Int} (a : PairAt h v y i) (b : PairAt h v z j) : y = z ∧ i = j := by
  obtain ⟨b, t, u, o, n1, rfl, h1, h2, h3⟩ := a
  obtain ⟨b', t', u', o', n1', eb, h1', h2', h3'⟩ := b
  cases eb
  rw [h1] at h1'
  cases h1'
  rw [h3] at h3'
  injection h3' with e1 e2
  have e3 := congrArg (fun z : Array Value => z.toList) e1
  simp at e3
  obtain ⟨⟨ey, _⟩, ei, _⟩ := e3
  exact ⟨ey, ei⟩
end
end TP

namespace TP
open PySem PySem.Spec PyProof.Rows L2
theorem k_gunl {X : Cx} {es : List Expr} {pos : Pos} (K : PySem.W.Frag) {k n : Nat} {t : TGs} (hc : X.calm = true) (hg : PGs X es t) (h : X.K = K := by rfl) (hn : (assignEach es X.env).length = n := by rfl) (hst : (assignEach es X.env).findIdx? (·.1) = none := by rfl) : PG X (.Tuple es k pos) (gUnl K n t) := by subst h; exact pg_unl hc hg hn hst
theorem w_gunl {K : PySem.W.Frag} {σ : L2.St} {H : Hp} {n : Nat} {gs : TGs} {a : Addr} {xs : List V} {QS : L2.St → Hp → Prop} (hs : SqL K H a xs) (hn : xs.length = n) (h : gs xs σ H QS) : gUnl K n gs (.ref a) σ H QS := ⟨a, xs, rfl, hs, hn, h⟩
end TP

namespace TP
open PySem PySem.Spec PyProof.Rows L2
theorem notFirst_of {K : PySem.W.Frag} {C : Addr} {t : Value} (h : t = .ref C ∨ PySem.W.kitOne K t (.ref C) = some false) : PySem.W.notFirst K C t = true := by
  unfold PySem.W.notFirst
  rcases h with rfl | h
  · simp
  · unfold PySem.W.kitOne at h
    by_cases z : (t == Value.ref C) = true
    · rw [if_pos z] at h; cases h
    · rw [if_neg z] at h
      unfold PySem.W.kitCls at h
      dsimp only at h
      split at h
      · rw [h]; simp
      · cases h
section
variable {prog : Program} {w : World} {A : Around} {E : Value → Shared → Prop} {s : Shared} {K : PySem.W.Frag} {x C f : Addr} {ox : Obj} {od : Option Obj} {b tb : Value}
open PySem.W in
theorem ifBound_B {M : Model} {name : Str} {id : String} {args : List Value} {Q : Option Value → Shared → Prop} (X : K.In s.heap) (I : InstAt s.heap x ox C od) (hs : findIn K (.ref C) name = some (some (.builtin id)))
    (hb : ∀ self, bindSpecial (.builtin id) self = pure (.builtin id, [self])) (h : wpAny M A (call (.builtin id) (.ref x :: args)) (fun v => Q (some v)) E s) : wpAny M A (callSpecialIfBound? (.ref x) name args) Q E s := by
  simp only [callSpecialIfBound?, bindSpecialIfBound?]
  refine wpAny_holding (wpAny_bind (wpAny_bind (wpAny_bind (I.type.here ((looks_findIn X hs).here ?_)))))
  refine wpAny_bind (wpAny_askSetting (wpAny_ite ?_))
  have fin : wpAny M A (call (.builtin id) ([.ref x] ++ args) >>= fun v => pure (some v)) Q E s := wpAny_bind (wpAny_mono h (fun v s' h' => wpAny_pure h') fun _ _ h' => h')
  split
  · exact wpAny_bind ((Looks.of_pure (hb _)).here (wpAny_pure (by exact fin)))
  · exact wpAny_tryCatch (wpAny_bind ((Looks.of_pure (hb _)).here (wpAny_pure (by exact fin))))
open PySem.W Builtin in
theorem ne_body {Q : Fin → Shared → Prop} (hu : A.units < cLine) (X : K.In s.heap) (I : InstAt s.heap x ox C od) (hs : findIn K (.ref C) "__eq__" = some (some (.ref f))) (hf : isFn K (.ref f) = true)
    (hcall : wpAny (model prog w) A (call (.ref f) [.ref x, b]) (fun v s' => ∃ c, v = .bool c ∧ Q (.done (.ret (.bool (!c)))) s') E s) : wpAny (model prog w) A (Builtin.«object.__ne__» ⟨[.ref x, b], []⟩) Q E s := by
  unfold Builtin.«object.__ne__»
  repeat (first
    | with_reducible refine wpAny_cRoomFor hu ?_
    | (refine wpAny_bind (m := callSpecialIfBound? (.ref x) (Str.ofString "__eq__") [b])
        (ifBound_K X I hs hf (wpAny_mono hcall (fun r s' hr => by
          obtain ⟨c, rfl, hq⟩ := hr
          repeat (first | exact hq | exact wpAny_pure hq | exact wpAny_truthy_bool hq | (refine wpAny_bind (m := truthy (.bool _)) (wpAny_truthy_bool ?_)) | wp_step)) fun _ _ e => e)))
    | wp_step)
open PySem.W in
theorem ne_KO {Q : Value → Shared → Prop} (hu : A.units + 1 < cLine) (X : K.In s.heap) (I : InstAt s.heap x ox C od) (hb : Looks (model prog w) s.heap (typeOf b) tb) (hn : notFirst K C tb = true)
    (hne : findIn K (.ref C) "__ne__" = some (some (.builtin "object.__ne__"))) (hm : mroIn K C (.type "object") = some true) (hs : findIn K (.ref C) "__eq__" = some (some (.ref f))) (hf : isFn K (.ref f) = true)
    (h : wpAny (model prog w) A.in1 (call (.ref f) [.ref x, b]) (fun v s' => ∃ c, v = .bool c ∧ Q (.bool (!c)) s') E s) : wpAny (model prog w) A (richCompare .NotEq (.ref x) b) Q E s := by
  have one : wpAny (model prog w) A (tryCompare (.ref x) (Str.ofString "__ne__") b) (fun r s' => ∃ v, r = some v ∧ Q v s') E s := by
    unfold tryCompare
    refine wpAny_bind (ifBound_B X I hne (fun _ => by rfl) (wpAny_call (codeAny_call_builtin (by decide +kernel) F.cmpEntry_ne (check_slot (i := "object.__ne__") (owner := "object") (n := "__ne__") F.cmpKind_ne F.cmpSplit_ne (I.type.andThen (looks_mroIn X hm)) (F.cmpArgs_ne _ _) ?_))))
    refine ne_body (A := A.in1) hu X I hs hf (wpAny_mono h (fun v s' hv => ?_) fun _ _ e => e)
    obtain ⟨c, rfl, hq⟩ := hv
    first | exact ⟨c, rfl, wpAny_pure ⟨_, rfl, hq⟩⟩ | exact ⟨c, rfl, wpAny_pure (wpAny_pure ⟨_, rfl, hq⟩)⟩ | exact ⟨c, rfl, _, rfl, wpAny_pure ⟨_, rfl, hq⟩⟩
  unfold richCompare
  simp only [oneThing_ref]
  refine wpAny_holding (wpAny_bind (wpAny_cRoomFor (Nat.lt_of_succ_lt hu) ?_))
  refine wpAny_bind (I.type.here (wpAny_bind (hb.here ?_)))
  rw [cmpInfo_NotEq]
  dsimp only
  split
  · rename_i q
    have e : subIn K tb (.ref C) = some false := by
      rcases Bool.or_eq_true_iff.mp hn with e | e
      · rw [beq_iff_eq.mp e] at q; simp at q
      · exact beq_iff_eq.mp e
    refine wpAny_bind ((looks_subIn X e).here ?_)
    simp only [Bool.false_eq_true, if_false]
    refine wpAny_bind (wpAny_mono one (fun r s' z => ?_) fun _ _ e => e)
    obtain ⟨v, rfl, hq⟩ := z
    exact wpAny_pure hq
  · refine wpAny_bind (wpAny_pure ?_)
    simp only [Bool.false_eq_true, if_false]
    refine wpAny_bind (wpAny_mono one (fun r s' z => ?_) fun _ _ e => e)
    obtain ⟨v, rfl, hq⟩ := z
    exact wpAny_pure hq
end
section
variable {X : Cx} {CX : CXT} {k n : Nat} {C q : Str} {st : Stmt} {ps : List Str} {js : List Nat} {sp : Sp} {E : XK} {fs : List Str} (K : PySem.W.Frag)
theorem s_eqA (F : HasM X.prog X.w K X.mg X.base CX k C "__eq__" q st [] ps sp) (hb : BindJ "__eq__" q st ps 0 2 [] js) (hr : Room k X.A) (hg : X.A.guards = some []) (hx : Passes CX X E) (hK : X.K = K := by rfl) : OpR X (compareOp .Eq) (rCmpO K false (He.ga K C) sp js E) := by
  subst hK
  intro pins s σ H x y v u Q I rx ry h
  obtain ⟨a, dx, fl, t, rfl, ha, ht, hkt, hq⟩ := h
  cases rx
  obtain ⟨fd, FD, G⟩ := F.ex
  obtain ⟨g, B⟩ := kbn FD hb
  obtain ⟨mA, J, _⟩ := ins_get I.hok ha
  obtain ⟨od, J, _⟩ := J.look
  obtain ⟨m, hF⟩ := I.fr
  obtain ⟨P, kx, hP, _⟩ := kit_of I ry ht
  show wpAny (model X.prog X.w) X.A (richCompare .Eq (.ref a) u) (EP X pins σ Q) X.xe s
  refine PySem.W.cmp_K (op := .Eq) (tb := t) (by have := hr.un; omega) hF I.ok.mod.kin J (kx.ty _ _ I.kIn hP) (notFirst_of hkt) F.mt.at_ F.mt.fn ?_
  refine wpAny_mono (run_at (A' := X.A) (vs := [.ref a, y]) G B rfl hr hg hx I (.cons rfl (.cons ry .nil)) rfl hq) (fun u s' q => ?_) fun _ _ x => x
  obtain ⟨v, H', I', rv, c, rfl, q⟩ := q
  cases rv
  exact ⟨.bl c, H', I', rfl, q⟩
theorem s_neA (c : ClsF K X.mg C fs) (F : HasM X.prog X.w K X.mg X.base CX k C "__eq__" q st [] ps sp) (hb : BindJ "__eq__" q st ps 0 2 [] js) (hr : Room (k + 1) X.A) (hg : X.A.guards = some []) (hx : Passes CX X E) (hK : X.K = K := by rfl) : OpR X (compareOp .NotEq) (rCmpO K true (He.ga K C) sp js E) := by
  subst hK
  intro pins s σ H x y v u Q I rx ry h
  obtain ⟨a, dx, fl, t, rfl, ha, ht, hkt, hq⟩ := h
  cases rx
  obtain ⟨fd, FD, G⟩ := F.ex
  obtain ⟨g, B⟩ := kbn FD hb
  obtain ⟨mA, J, _⟩ := ins_get I.hok ha
  obtain ⟨od, J, _⟩ := J.look
  obtain ⟨P, kx, hP, _⟩ := kit_of I ry ht
  show wpAny (model X.prog X.w) X.A (richCompare .NotEq (.ref a) u) (EP X pins σ Q) X.xe s
  refine ne_KO (tb := t) (by have := hr.un; omega) I.kIn J (kx.ty _ _ I.kIn hP) (notFirst_of hkt) c.ne c.i4 F.mt.at_ F.mt.fn ?_
  refine wpAny_mono (run_at (A' := X.A.in1) (vs := [.ref a, y]) G B rfl hr.in1 hg hx I (.cons rfl (.cons ry .nil)) rfl hq) (fun u s' q => ?_) fun _ _ x => x
  obtain ⟨v, H', I', rv, c, rfl, q⟩ := q
  cases rv
  exact ⟨c, rfl, .bl (!c), H', I', rfl, q⟩
end
section
variable {K : PySem.W.Frag} {mg : Str → Option Value} {H : Hp} {Q : VK} {v w : V} {c d : Int} {ps qs : Bag} {sp : Sp} {js : List Nat} {E : XK} {neg : Bool}
theorem sum_ty (cl : ClsF K mg "Summary" sumF) (h : SumO K H v c ps) : TyX K H v (.ref (He.ga K "Summary")) := by
  obtain ⟨a, dx, b, rfl, h1, h2⟩ := h
  exact .base (.ins h1 cl.cls cl.i1 cl.i2 cl.i3 cl.i4)
theorem w_cmpSum (cl : ClsF K mg "Summary" sumF) (h : SumO K H v c ps) (h' : SumO K H w d qs) (q : sp (pick js ([v, w] ++ [] ++ [])) H (fun v H' => ∃ c : Bool, v = .bl c ∧ Q (.bl (if neg then !c else c)) H') E) : rCmpO K neg (He.ga K "Summary") sp js E v w H Q := by
  have t := sum_ty cl h'
  obtain ⟨a, dx, b, rfl, h1, h2⟩ := h
  exact ⟨a, dx, _, _, rfl, h1, t, .inl rfl, q⟩
end
end TP

namespace TP
open PySem PySem.Spec PyProof.Rows L2
section
open TL
end
theorem okS_app {x y : Str} (h1 : okS x) (h2 : okS y) : okS (x ++ y) := fun c hc => by
  rw [app_list] at hc
  rcases List.mem_append.mp hc with h | h
  · exact h1 c h
  · exact h2 c h
theorem okS_of (s : String) : okS (Str.ofString s) := fun c hc => by
  have e := TL.tl_ofString s
  rw [show (Str.ofString s).cps.toList = _ from e] at hc
  obtain ⟨ch, _, rfl⟩ := List.mem_map.mp hc
  have h : ch.toNat < 1114112 := by
    have := ch.valid
    rcases this with h | h
    · exact Nat.lt_trans h (by decide)
    · exact h.2
  exact Nat.lt_trans h (by decide)
theorem okS_name {x : Str} (h : isName x = true) : okS x := fun c hc => by
  have := List.all_eq_true.mp (isName_let h) c hc
  unfold isLet at this
  simp at this
  have e : (16 : Nat) ^ 8 = 4294967296 := by decide
  omega
theorem okS_join {s : Str} (hs : okS s) : ∀ {l : List Str}, (∀ x ∈ l, okS x) → okS (Str.join s l)
  | [], _ => nofun
  | [x], h => h x List.mem_cons_self
  | x :: y :: r, h => by
    show okS (x ++ s ++ Str.join s (y :: r))
    exact okS_app (okS_app (h x List.mem_cons_self) hs) (okS_join hs fun z hz => h z (List.mem_cons_of_mem _ hz))
theorem okS_cText {ps : Bag} (h : BagS ps) : okS (cText ps) := by
  unfold cText
  split
  · exact okS_of _
  · rw [txt_join_eq]
    refine okS_join (okS_of _) fun x hx => ?_
    obtain ⟨p, hp, rfl⟩ := List.mem_map.mp hx
    exact okS_app (okS_app (okS_name (h p hp).1) (okS_of _)) (okS_of _)
theorem rText_len {c : Int} {ps : Bag} (h : BagS ps) (h1 : 0 ≤ c) (h8 : c ≤ 8) : (rText c ps).length ≤ 1932 * ps.length + 2000 := by
  have hi := intS_len (i := c) h1 (Int.le_trans h8 (by decide))
  have hc := cText_len h
  have l1 : Str.length ("Summary(" : Str) = 8 := by decide +kernel
  have l2 : Str.length (", '" : Str) = 3 := by decide +kernel
  have l3 : Str.length ("')" : Str) = 2 := by decide +kernel
  unfold rText
  rw [app_len, app_len, app_len, app_len]
  omega
section
variable {K : PySem.W.Frag} {H H' : Hp} {lo hi B : Int} {ms : List V}
end
end TP

namespace TP
open PySem PySem.Spec PyProof.Rows L2
section
variable {K : PySem.W.Frag} {mg : Str → Option Value} {H H' : Hp} {Q : VK} {v : V} {c : Int} {ps : Bag}
end
section
variable {K : PySem.W.Frag} {mg : Str → Option Value} {H H' : Hp} {Q : VK} {v w : V} {c d : Int} {ps qs : Bag} {sp : Sp} {js : List Nat} {E : XK} {neg : Bool}
end
theorem BagOk.init {ps : Bag} (h : BagOk ps) : BagOk ps.dropLast := by rw [List.dropLast_eq_take]; exact h.take _
end TP

namespace TP
open PySem PySem.Spec PyProof.Rows L2
section
variable {prog : Program} {w : World} {A : Around} {E : Value → Shared → Prop} {s : Shared}
end
section
variable {K : PySem.W.Frag} {H H' : Hp} {xs ys : List V}
end
end TP

namespace TP
open PySem PySem.Spec PyProof.Rows L2
end TP

namespace TP
open PySem PySem.Spec PyProof.Rows L2
section
variable {X : Cx}
end
section
variable {K : PySem.W.Frag} {H : Hp} {Q : VK} {a : Addr}
theorem w_ddel {td ty : TE} {σ : L2.St} {De : Ends} (h : td σ H fun x H1 => ty σ H1 fun y H2 => DelC x y H2 fun H3 => De.nx σ H3) : sDDel td ty De σ H := h
theorem w_daug {td ty tv : TE} {rd : V → V → Hp → VK → Prop} {σ : L2.St} {De : Ends} (h : td σ H fun x H1 => ty σ H1 fun y H2 => AugC x y tv σ rd H2 fun H5 => De.nx σ H5) : sDAug td ty tv rd De σ H := h
end
end TP

namespace TP
open PySem PySem.Spec PyProof.Rows L2
end TP

namespace TP
open PySem PySem.Spec PyProof.Rows L2
section
variable {prog : Program} {w : World} {A : Around} {E : Value → Shared → Prop} {s : Shared}
end
section
variable {X : Cx}
end
theorem w_dpop1 {td ty : TE} {σ : L2.St} {H : Hp} {Q : VK} (h : td σ H fun x H1 => ∃ a, x = .ref a ∧ IsD H1 a ∧ ty σ H1 fun y H2 => ∃ kvs k v, H2 a = some (.dK kvs) ∧ y = kV k ∧ valV kvs k = some v ∧ Q v (upd H2 a (.dK (dropK kvs k)))) : tDPop1 td ty σ H Q := h
end TP

namespace TP
open PySem PySem.Spec PyProof.Rows L2
theorem w_revL {K : PySem.W.Frag} {te : TE} {σ : L2.St} {H : Hp} {Q : VK} (h : te σ H fun x H1 => RevC K x H1 Q) : tRevL K te σ H Q := h
end TP

namespace TP
open PySem PySem.Spec PyProof.Rows L2
end TP

namespace TP
open PySem PySem.Spec PyProof.Rows L2
end TP

namespace TP
open PySem PySem.Spec PyProof.Rows L2
end TP

namespace TP
open PySem PySem.Spec PyProof.Rows L2 TL
end TP

namespace TP
open PySem PySem.Spec PyProof.Rows L2
section
variable {X : Cx} {x1 x2 x3 n : Str} {c1 c2 c3 : Value} {i kk : Nat} {body suite : List Stmt} {b₀ : Stmt} {np1 np2 np3 tpos pos pos' : Pos} {tb : WX → TS} {ts : Addr → Value → Option Addr → TS} {Wout : WX}
end
end TP
namespace TPX
open PySem PySem.W PySem.Spec PySem.Calls PyProof.Rows
section
variable {prog : Program} {w : World} {A : Around} {E : Value → Shared → Prop} {s : Shared} {K : Frag} {x D : Addr} {ox : Obj} {od : Option Obj}
end
end TPX
namespace TP
open PySem PySem.Spec PyProof.Rows L2
end TP

namespace TP
open PySem PySem.Spec PyProof.Rows L2 LamX
end TP

namespace TPE
open PySem
end TPE
namespace TPE
open PySem PySem.HandSPX Builtin Builtin.ObjectAttr
section
variable {prog : Program} {w : World} {A : Around} {E : Value → Shared → Prop} {R : Result → Shared → Prop} {hp : Heap} {g : Array GenState} {d : Drawn} {t : Nat} {os : OsState}
end
end TPE
namespace TP
open PySem PySem.Spec PyProof.Rows L2
section
variable {X : Cx} {pins : List (Addr × Obj)} {σ : L2.St} {H : Hp} {s : Shared} {a C dx : Addr} {f : Str} {y : V} {u : Value} {fs : List (Str × V)} {Q : Unit → Shared → Prop} {E : Value → Shared → Prop} {A : Around}
end
section
variable {X : Cx} {o e : Expr} {es : List Expr} {to te : TE} {ta : TA} {f : Str} {p p' p1 p2 pos : Pos}
end
end TP

namespace TP
open PySem PySem.Spec PyProof.Rows L2 LamX
end TP

namespace TP
open PySem PySem.Spec PyProof.Rows L2
section
variable {K : PySem.W.Frag} {mg : Str → Option Value} {H : Hp} {Q : VK} {p : Addr × Obj} {e : ExE} {y : V} {dd : Addr}
theorem w_isP (F : ExF K mg) (he : e ∈ exTab) (h : HeldS K p H e y dd) {C : Str} (hC : C ∈ exLeaf ++ exBase) (q : Q (.bl (exIs e C)) H) : rIsP K p.1 (He.ga K e.1) dd [.ref p.1, .ref (He.ga K C)] H Q := ⟨_, _, _, _, rfl, .own _, h.2.2, F.kit e he C hC, q⟩
theorem held_same {H' : Hp} (s : Same H H') (h : HeldS K p H e y dd) : HeldS K p H' e y dd := ⟨h.1, h.2.1, s _ _ h.2.2⟩
end
end TP



namespace TP
open PySem PySem.Spec PyProof.Rows L2
/-! ### list.count of flat items -/
def rCntF (K : PySem.W.Frag) : V → List V → Hp → VK → Prop := fun x xs H Q => ∃ (a : Addr) (ys : List V) (y : V), x = .ref a ∧ xs = [y] ∧ SqL K H a ys ∧ flatV y = true ∧ ys.all flatV = true ∧ Q (.int (ys.countP (fun z => eqV z y) : Nat)) H
theorem w_allocLG {H : Hp} {Q : VK} {xs : List V} (hz : xs.length.ble 100000 = true) (h : ∀ p G, Same H G → G p = some (.lst xs) → Q (.ref p) G) : AllocL xs H Q := w_allocL hz fun p hp => h p _ (same_new hp) upd_same
/-! ### the kinds of the own errors -/
def exAt (e : ExE) : Nat := exLeaf.findIdx (exIs e)
def exBls (e : ExE) : List V := exLeaf.map fun C => V.bl (exIs e C)
def exWords : Str := "capacity name times counts summary order plan text size number slots index action line notsummary differ busy undo names actions"
end TP

namespace TP
open PySem PySem.Spec PyProof.Rows L2 LamX
/-! ### all but the code tables stay -/
theorem Same.x {H H' : Hp} (s : Same H H') : ExtN H H' := ExtN.of s
theorem sql_x {K : PySem.W.Frag} {H H' : Hp} {a : Addr} {xs : List V} (s : ExtN H H') (h : SqL K H a xs) : SqL K H' a xs := by
  rcases h with (h | ⟨o, h⟩) | h
  · exact .inl (.inl (s _ _ h nofun))
  · exact .inl (.inr ⟨o, s _ _ h nofun⟩)
  · exact .inr h
theorem sqt_x {K : PySem.W.Frag} {H H' : Hp} {a : Addr} {xs : List V} (s : ExtN H H') (h : SqT K H a xs) : SqT K H' a xs := by
  rcases h with (h | ⟨o, h⟩) | h
  · exact .inl (.inl (s _ _ h nofun))
  · exact .inl (.inr ⟨o, s _ _ h nofun⟩)
  · exact .inr h
mutual
theorem dp_x {K : PySem.W.Frag} {H H' : Hp} (s : ExtN H H') : ∀ {v : V} {d : PyData}, Dp K H v d → Dp K H' v d
  | _, _, .non => .non
  | _, _, .bl b => .bl b
  | _, _, .int i => .int i
  | _, _, .str x => .str x
  | _, _, .lst h r => .lst (sql_x s h) (dps_x s r)
  | _, _, .tup h r => .tup (sqt_x s h) (dps_x s r)
theorem dps_x {K : PySem.W.Frag} {H H' : Hp} (s : ExtN H H') : ∀ {vs : List V} {ds : List PyData}, DpAll K H vs ds → DpAll K H' vs ds
  | _, _, .nil => .nil
  | _, _, .cons h r => .cons (dp_x s h) (dps_x s r)
end
theorem sum_x {K : PySem.W.Frag} {H H' : Hp} {v : V} {c : Int} {ps : Bag} (s : ExtN H H') (h : SumO K H v c ps) : SumO K H' v c ps := by
  obtain ⟨a, dx, b, rfl, h1, h2⟩ := h
  exact ⟨a, dx, b, rfl, s _ _ h1 nofun, dp_x s h2⟩
theorem lst_x {H H' : Hp} {a : Addr} {xs : List V} (s : ExtN H H') (h : H a = some (.lst xs)) : H' a = some (.lst xs) := s _ _ h nofun
theorem dk_x {H H' : Hp} {a : Addr} {kvs : List (Key × V)} (s : ExtN H H') (h : H a = some (.dK kvs)) : H' a = some (.dK kvs) := s _ _ h nofun
section
variable {J : It} {n : Nat} {G : Hp → Prop} {Y : Nat → Hp → V → Hp → Prop} {g : TG} {te : TE} {vs : List Nat} {σ : L2.St} {H1 : Hp} {D : Addr} {Q : VK}
end
end TP

/-! a lambda handed to the def that calls it and tells what was raised (turned from HandS.Lambda: no repr is under way) -/
namespace TP
open PySem PySem.Spec PyProof.Rows L2 LamX
section
variable {X : Cx} {pins : List (Addr × Obj)} {σ : L2.St} {H HZ : Hp} {s s1 : Shared}
end
section
variable {X : Cx}
end
end TP
namespace TP
open PySem PySem.Spec PyProof.Rows L2 LamX
section
variable {P : Program} {w : World} {K : PySem.W.Frag} {mg : Str → Option Value} {base : Heap} {CX : CXT} {k : Nat} {x : Str} {st : Stmt} {N ps : List Str} {sp : Sp}
end
end TP

/-! data among which empty dicts stand -/
namespace TP
open PySem PySem.Spec PyProof.Rows L2 LamX
mutual
inductive Dx (K : PySem.W.Frag) (H : Hp) : V → PyData → Prop
  | non : Dx K H .non .none
  | bl (b : Bool) : Dx K H (.bl b) (.bool b)
  | int (i : Int) : Dx K H (.int i) (.int i)
  | str (x : Str) : Dx K H (.str x) (.str x)
  | lst {a : Addr} {xs : List V} {ds : List PyData} : SqL K H a xs → DxAll K H xs ds → Dx K H (.ref a) (.list ds)
  | tup {a : Addr} {xs : List V} {ds : List PyData} : SqT K H a xs → DxAll K H xs ds → Dx K H (.ref a) (.tuple ds)
  | dct {a : Addr} : H a = some (.dK []) → Dx K H (.ref a) (.dict [])
inductive DxAll (K : PySem.W.Frag) (H : Hp) : List V → List PyData → Prop
  | nil : DxAll K H [] []
  | cons {v : V} {vs : List V} {d : PyData} {ds : List PyData} : Dx K H v d → DxAll K H vs ds → DxAll K H (v :: vs) (d :: ds)
end
mutual
theorem dp_dx {K : PySem.W.Frag} {H : Hp} : ∀ {v : V} {d : PyData}, Dp K H v d → Dx K H v d
  | _, _, .non => .non
  | _, _, .bl b => .bl b
  | _, _, .int i => .int i
  | _, _, .str x => .str x
  | _, _, .lst h r => .lst h (dps_dx r)
  | _, _, .tup h r => .tup h (dps_dx r)
theorem dps_dx {K : PySem.W.Frag} {H : Hp} : ∀ {vs : List V} {ds : List PyData}, DpAll K H vs ds → DxAll K H vs ds
  | _, _, .nil => .nil
  | _, _, .cons h r => .cons (dp_dx h) (dps_dx r)
end
mutual
theorem dx_x {K : PySem.W.Frag} {H H' : Hp} (s : ExtN H H') : ∀ {v : V} {d : PyData}, Dx K H v d → Dx K H' v d
  | _, _, .non => .non
  | _, _, .bl b => .bl b
  | _, _, .int i => .int i
  | _, _, .str x => .str x
  | _, _, .lst h r => .lst (sql_x s h) (dxs_x s r)
  | _, _, .tup h r => .tup (sqt_x s h) (dxs_x s r)
  | _, _, .dct h => .dct (dk_x s h)
theorem dxs_x {K : PySem.W.Frag} {H H' : Hp} (s : ExtN H H') : ∀ {vs : List V} {ds : List PyData}, DxAll K H vs ds → DxAll K H' vs ds
  | _, _, .nil => .nil
  | _, _, .cons h r => .cons (dx_x s h) (dxs_x s r)
end
theorem dx_same {K : PySem.W.Frag} {H H' : Hp} (s : Same H H') {v : V} {d : PyData} (h : Dx K H v d) : Dx K H' v d := dx_x (ExtN.of s) h
theorem dxs_same {K : PySem.W.Frag} {H H' : Hp} (s : Same H H') {vs : List V} {ds : List PyData} (h : DxAll K H vs ds) : DxAll K H' vs ds := dxs_x (ExtN.of s) h
section
variable {K : PySem.W.Frag} {H : Hp}
theorem dxs_len : ∀ {vs : List V} {ds : List PyData}, DxAll K H vs ds → vs.length = ds.length
  | _, _, .nil => rfl
  | _, _, .cons _ r => by rw [List.length_cons, List.length_cons, dxs_len r]
theorem ty_dx {v : V} {d : PyData} (h : Dx K H v d) : TyX K H v (.type (tyD d)) := by
  cases h with
  | non => exact .base .non
  | bl b => exact .base (.bl b)
  | int i => exact .base (.int i)
  | str x => exact .base (.str x)
  | lst h _ =>
    rcases h with (h | ⟨o, h⟩) | ⟨o, its, n, h, c, _⟩
    · exact .base (.lst h)
    · exact .base (.frz h)
    · exact .kList h c
  | tup h _ =>
    rcases h with (h | ⟨o, h⟩) | ⟨o, its, n, h, c, _⟩
    · exact .base (.tup h)
    · exact .fTuple h
    · exact .kTuple h c
  | dct h => exact .base (.dK h)
end
/-! ### lists alone are changed -/
def SameM (H H' : Hp) : Prop := ∀ a o, H a = some o → (∀ xs, o ≠ .lst xs) → H' a = some o
theorem SameM.lst {H : Hp} {l : Addr} {xs : List V} {u : HO} (h : H l = some (.lst xs)) : SameM H (upd H l u) := fun a o e n => by
  by_cases z : a = l
  · subst z; rw [h] at e; cases e; exact absurd rfl (n xs)
  · rw [upd_ne z]; exact e
theorem SameM.sqt {K : PySem.W.Frag} {H H' : Hp} {a : Addr} {xs : List V} (s : SameM H H') (h : SqT K H a xs) : SqT K H' a xs := by
  rcases h with (h | ⟨o, h⟩) | h
  · exact .inl (.inl (s _ _ h nofun))
  · exact .inl (.inr ⟨o, s _ _ h nofun⟩)
  · exact .inr h
mutual
/-- no list stands in it -/
def noL : PyData → Bool
  | .list _ => false
  | .tuple ds => noLs ds
  | _ => true
def noLs : List PyData → Bool
  | [] => true
  | d :: r => noL d && noLs r
end
mutual
theorem dx_m {K : PySem.W.Frag} {H H' : Hp} (s : SameM H H') : ∀ {v : V} {d : PyData}, Dx K H v d → noL d = true → Dx K H' v d
  | _, _, .non, _ => .non
  | _, _, .bl b, _ => .bl b
  | _, _, .int i, _ => .int i
  | _, _, .str x, _ => .str x
  | _, _, .lst h r, f => by simp [noL] at f
  | _, _, .tup h r, f => .tup (s.sqt h) (dxs_m s r (by simpa [noL] using f))
  | _, _, .dct h, _ => .dct (s _ _ h nofun)
theorem dxs_m {K : PySem.W.Frag} {H H' : Hp} (s : SameM H H') : ∀ {vs : List V} {ds : List PyData}, DxAll K H vs ds → noLs ds = true → DxAll K H' vs ds
  | _, _, .nil, _ => .nil
  | _, _, .cons h r, f => by
    have f2 := Bool.and_eq_true_iff.mp (show (noL _ && noLs _) = true from f)
    exact .cons (dx_m s h f2.1) (dxs_m s r f2.2)
end
/-! ### what they show -/
mutual
/-- a bound of the shown text -/
def rbX : PyData → Nat
  | .none => 5
  | .bool _ => 5
  | .int _ => 1921
  | .str x => 10 * x.length + 2
  | .list ds => rbXs ds + 2
  | .tuple ds => rbXs ds + 3
  | .dict _ => 2
def rbXs : List PyData → Nat
  | [] => 0
  | d :: r => rbX d + 2 + rbXs r
end
mutual
def okX : PyData → Bool
  | .none => true
  | .bool _ => true
  | .int i => decide (i.natAbs.log2 < 1920)
  | .str x => x.cps.toList.all fun c => decide (c < 16 ^ 8)
  | .list ds => okXs ds
  | .tuple ds => okXs ds
  | .dict kvs => kvs.isEmpty
def okXs : List PyData → Bool
  | [] => true
  | d :: r => okX d && okXs r
end
mutual
theorem shown_leX : ∀ d : PyData, okX d = true → d.shown.length ≤ rbX d
  | .none, _ => by simp only [PyData.shown, rbX]; decide
  | .bool b, _ => by cases b <;> simp only [PyData.shown, rbX] <;> decide
  | .int i, h => by
    have h' : i.natAbs.log2 < 1920 := of_decide_eq_true (by simpa [okX] using h)
    simp only [PyData.shown, rbX]
    exact int_text_len_1921 h'
  | .str x, h => by
    simp only [PyData.shown, rbX]
    refine PySem.StrLaws.reprText_len x fun c hc => ?_
    have h' := List.all_eq_true.mp (by simpa only [okX] using h) c hc
    exact of_decide_eq_true h'
  | .list ds, h => by
    have ih := shownAll_leX ds (by simpa [okX] using h)
    simp only [PyData.shown, rbX, listText]
    have h1 := textFrom_le (PyData.shownAll ds) 0 "["
    rw [str_app_len]
    have e1 : (Str.ofString "[").length = 1 := by decide
    have e2 : (Str.ofString "]").length = 1 := by decide
    rw [e1] at h1
    rw [e2]
    omega
  | .tuple ds, h => by
    have ih := shownAll_leX ds (by simpa [okX] using h)
    simp only [PyData.shown, rbX, tupleText]
    rw [str_app_len, str_app_len]
    have h1 := StrLaws.join_length_le (Str.ofString ", ") (PyData.shownAll ds)
    have e0 : (Str.ofString ", ").length = 2 := by decide
    rw [e0] at h1
    have e1 : (Str.ofString "(").length = 1 := by decide
    have e2 : (Str.ofString (if ((PyData.shownAll ds).length == 1) = true then ",)" else ")")).length ≤ 2 := by
      by_cases z : ((PyData.shownAll ds).length == 1) = true
      · rw [if_pos z]; decide
      · rw [if_neg z]; decide
    have e3 : ((PyData.shownAll ds).map fun t => t.length + 2).sum = ((PyData.shownAll ds).map (·.length)).sum + (PyData.shownAll ds).length * 2 := by
      generalize PyData.shownAll ds = l
      induction l with
      | nil => rfl
      | cons a r ih2 => simp only [List.map_cons, List.sum_cons, List.length_cons]; omega
    rw [e1]
    omega
  | .dict [], _ => by simp only [PyData.shown, rbX]; decide
  | .dict (_ :: _), h => by simp [okX] at h
theorem shownAll_leX : ∀ ds : List PyData, okXs ds = true → ((PyData.shownAll ds).map fun t => t.length + 2).sum ≤ rbXs ds
  | [], _ => by simp [PyData.shownAll, rbXs]
  | d :: r, h => by
    have h' := Bool.and_eq_true_iff.mp (show (okX d && okXs r) = true from h)
    have h1 := shown_leX d h'.1
    have h2 := shownAll_leX r h'.2
    simp only [PyData.shownAll, rbXs, List.map_cons, List.sum_cons]
    omega
end
mutual
theorem showable_ofX : ∀ d : PyData, okX d = true → d.showable = true
  | .none, _ => by simp [PyData.showable]
  | .bool b, _ => by simp [PyData.showable]
  | .int i, h => by simp only [PyData.showable]; simpa [okX] using h
  | .str x, _ => by simp [PyData.showable]
  | .list ds, h => by simp only [PyData.showable]; exact showables_ofX ds (by simpa [okX] using h)
  | .tuple ds, h => by simp only [PyData.showable]; exact showables_ofX ds (by simpa [okX] using h)
  | .dict [], _ => by simp [PyData.showable, PyData.showableKv]
  | .dict (_ :: _), h => by simp [okX] at h
theorem showables_ofX : ∀ ds : List PyData, okXs ds = true → PyData.showableAll ds = true
  | [], _ => by simp [PyData.showableAll]
  | d :: r, h => by
    have h' := Bool.and_eq_true_iff.mp (show (okX d && okXs r) = true from h)
    simp [PyData.showableAll, showable_ofX d h'.1, showables_ofX r h'.2]
end
end TP
namespace TP
open PySem PySem.Spec PyProof.Rows L2 LamX
section
variable {X : Cx} {pins : List (Addr × Obj)} {σ : L2.St} {H : Hp} {s : Shared}
theorem dct_reads (I : Inv X pins σ H s) {a : Addr} (h : H a = some (.dK [])) : Reads s.heap (.ref a) (.dict []) (a :: [] ++ []) ∧ sysModules ∉ (a :: [] ++ [] : List Addr) := by
  obtain ⟨_, hsm, vs, hkv, o, es, ep, ho, hx, hd, _, hp, _⟩ := dk_of I.hok h
  have ev : vs = [] := by
    cases hkv
    rfl
  subst ev
  have ee : es.toList = [] := by
    generalize es.toList = l at hp
    cases hp
    rfl
  refine ⟨Reads.dict ho hx.1 hd (by rw [ee]; exact .nil) (by rw [ee]; exact .nil), fun hm => ?_⟩
  have hm : sysModules ∈ [a] := hm
  rw [List.mem_singleton.mp hm] at hsm
  simp at hsm
mutual
theorem Dx.reads (I : Inv X pins σ H s) : ∀ (d : PyData) (v : V) (u : Value), Dx X.K H v d → RelV v u → ∃ as, Reads s.heap u d as ∧ (noL d = true → sysModules ∉ as)
  | .none, _, _, h, r => by
    cases h
    cases r
    exact ⟨_, Reads.none, fun _ => List.not_mem_nil⟩
  | .bool b, _, _, h, r => by
    cases h
    cases r
    exact ⟨_, Reads.bool b, fun _ => List.not_mem_nil⟩
  | .int i, _, _, h, r => by
    cases h
    obtain ⟨t, rfl⟩ := r
    exact ⟨_, Reads.int i t, fun _ => List.not_mem_nil⟩
  | .str x, _, _, h, r => by
    cases h
    obtain ⟨t, rfl⟩ := r
    exact ⟨_, Reads.str x t, fun _ => List.not_mem_nil⟩
  | .list ds, _, _, h, r => by
    cases h with
    | lst hs ha =>
      cases r
      obtain ⟨its, rv, ⟨o, n, ho, hc, _, hd⟩, _⟩ := I.list hs
      obtain ⟨as, hr, _⟩ := Dx.readsAll I ds _ its ha rv
      exact ⟨_, Reads.list ho hc hd hr, fun z => by simp [noL] at z⟩
  | .tuple ds, _, _, h, r => by
    cases h with
    | tup hs ha =>
      cases r
      obtain ⟨its, rv, ⟨o, ho, hc, n, hd⟩, _⟩ := I.tuple hs
      obtain ⟨as, hr, hno⟩ := Dx.readsAll I ds _ its ha rv
      exact ⟨_, Reads.tuple ho hc hd hr, fun z => hno (by simpa [noL] using z)⟩
  | .dict _, _, _, h, r => by
    cases h with
    | dct hd =>
      cases r
      obtain ⟨h1, h2⟩ := dct_reads I hd
      exact ⟨_, h1, fun _ => h2⟩
theorem Dx.readsAll (I : Inv X pins σ H s) : ∀ (ds : List PyData) (vs : List V) (us : List Value), DxAll X.K H vs ds → Vals vs us → ∃ as, ReadsAll s.heap us ds as ∧ (noLs ds = true → sysModules ∉ as)
  | [], _, _, h, r => by
    cases h
    cases r
    exact ⟨_, ReadsAll.nil, fun _ => List.not_mem_nil⟩
  | d :: ds, _, _, h, r => by
    cases h with
    | cons h1 h2 =>
      cases r with
      | cons r1 r2 =>
        obtain ⟨as, q1, n1⟩ := Dx.reads I d _ _ h1 r1
        obtain ⟨bs, q2, n2⟩ := Dx.readsAll I ds _ _ h2 r2
        refine ⟨_, ReadsAll.cons q1 q2, fun z hm => ?_⟩
        have z2 := Bool.and_eq_true_iff.mp (show (noL d && noLs ds) = true from z)
        exact (List.mem_append.mp hm).elim (n1 z2.1) (n2 z2.2)
end
/-- where an empty dict stands in it, no list stands below its top -/
def topL (d : PyData) : Bool := !d.hasDict || match d with
  | .list ds => noLs ds
  | .tuple ds => noLs ds
  | _ => true
structure ShowsX (d : PyData) : Prop where
  ok : okX d = true
  len : rbX d ≤ 16777216
  deep : d.depth ≤ 60
  top : topL d = true
def rReprX (K : PySem.W.Frag) : List V → Hp → VK → Prop := fun xs H Q => ∃ v d, xs = [v] ∧ Dx K H v d ∧ ShowsX d ∧ Q (.str d.shown) H
theorem showsByX (I : Inv X pins σ H s) {a : Addr} {d : PyData} (h : Dx X.K H (.ref a) d) (hk : okX d = true) (ht : topL d = true) (hsz : d.shown.length ≤ sizeLine) : ∃ T idr, ShowsBy X.prog X.w s.heap a d T idr := by
  have hs := showable_ofX d hk
  cases h with
  | lst hq ha =>
    rename_i vs xs
    obtain ⟨its, rv, ⟨o, n, h1, h2, _, h3⟩, _⟩ := I.list hq
    obtain ⟨as, h4, hno⟩ := Dx.readsAll I xs _ its ha rv
    have hz' : (listText (PyData.shownAll xs)).length ≤ sizeLine := by simpa only [PyData.shown] using hsz
    have hx0 : PyData.hasDictAll xs = true → sysModules ∉ as := fun hx => hno (by
      have z : (!(PyData.list xs).hasDict || noLs xs) = true := ht
      rw [show (PyData.list xs).hasDict = true by simpa [PyData.hasDict] using hx] at z
      simpa using z)
    have h4' : ReadsAll s.heap its.toArray.toList xs as := by simpa using h4
    obtain ⟨bs, hb, hkk⟩ := ReprAllK.of_readsAll (prog := X.prog) (w := X.w) h4' (by simpa [PyData.showable] using hs) hx0 fun t ht => Nat.le_trans (listText_mem_le ht) hz'
    have hna : a ∉ bs := not_mem_of_deeper (.list h1 h2 h3 h4') (by simp only [PyData.depth]; omega) hb
    refine ⟨"list", "list.__repr__", F.slot_list_repr.toG, F.slot_list_str, F.slot_list_format, fun s hk0 => ⟨o, hk0 _ _ h1, h2⟩, fun A E s Q hg hu hk0 hQ => ?_⟩
    simp only [PyData.depth] at hu
    simp only [PyData.shown] at hQ
    cases its with
    | nil =>
      cases h4
      simp only [PyData.shownAll, listText_nil] at hQ
      exact call_list_repr_empty ⟨o, hk0 _ _ h1, h2⟩ (hk0 _ _ h1) h3 (hQ s.heap _ _ fun _ _ e => e)
    | cons x l => exact call_list_reprK h1 h2 h3 hna (by simpa using hkk.length_eq) (fun i y e => hkk.item i y (by simpa using e)) hg (fun b _ => Clear.nil b) hu hk0 hQ hz'
  | tup hq ha =>
    rename_i vs xs
    obtain ⟨its, rv, ⟨o, h1, h2, n, h3⟩, _⟩ := I.tuple hq
    obtain ⟨as, h4, hno⟩ := Dx.readsAll I xs _ its ha rv
    have h4' : ReadsAll s.heap its.toArray.toList xs as := by simpa using h4
    refine showsBy_of_reads (Reads.tuple h1 h2 h3 h4') hs (fun hx => hno ?_) hsz
    have z : (!(PyData.tuple xs).hasDict || noLs xs) = true := ht
    rw [hx] at z
    simpa using z
  | dct hd =>
    obtain ⟨h1, h2⟩ := dct_reads I hd
    exact showsBy_of_reads h1 hs (fun _ => h2) hsz
end
theorem call_reprX {X : Cx} (hg : X.A.guards = some []) (hu : X.A.units + 64 < cLine) : CallR X (.builtin "repr") (rReprX X.K) := by
  intro pins s σ H xs us Q I r h
  obtain ⟨v, d, rfl, hd, hs, q⟩ := h
  obtain ⟨u, rfl, ru⟩ := vals1 r
  have hz : d.shown.length ≤ sizeLine := Nat.le_trans (shown_leX d hs.ok) (Nat.le_trans hs.len (by rw [sizeLine_eq]; exact Nat.le_refl _))
  have big : ∀ a, v = .ref a → wpAny (model X.prog X.w) X.A (call (.builtin "repr") [u]) (EP X pins σ Q) X.xe s := fun a e => by
    subst e
    obtain rfl : u = Value.ref a := ru
    obtain ⟨T, idr, S⟩ := showsByX I hd hs.ok hs.top hz
    refine call_repr_slot (by omega) (S.typeIs s fun _ _ e => e) S.slotRepr (S.call X.A.in1 X.xe s _ hg (by have := hs.deep; show X.A.units + 1 + d.depth < cLine; omega) (fun _ _ e => e) fun h' w' tk hk => ⟨_, _, rfl, ?_⟩)
    exact ⟨.str d.shown, H, I.kept (t' := tk) hk, ⟨_, rfl⟩, q⟩
  cases hd with
  | non =>
    have e : u = .none := ru
    subst e
    exact PySem.P.repr_of_none ⟨.str _, H, I.tok _, ⟨_, rfl⟩, q⟩
  | bl b =>
    have e : u = .bool b := ru
    subst e
    refine PySem.P.repr_of_bool ⟨.str _, H, I.tok _, ⟨_, rfl⟩, ?_⟩
    cases b <;> exact q
  | int i =>
    obtain ⟨t, rfl⟩ := ru
    refine PySem.P.repr_of_int ?_ ⟨.str _, H, I.tok _, ⟨_, rfl⟩, q⟩
    simpa [okX] using hs.ok
  | str x =>
    obtain ⟨t, rfl⟩ := ru
    exact PySem.P.repr_of_str ⟨.str _, H, I.tok _, ⟨_, rfl⟩, q⟩ hz
  | lst _ _ => exact big _ rfl
  | tup _ _ => exact big _ rfl
  | dct _ => exact big _ rfl
end TP

/-! any value as an order -/
namespace TP
open PySem PySem.Spec PyProof.Rows L2 LamX
/-- what the error of no order tells -/
def ordV : PyData → V
  | .tuple ds => optV (firstNo ds)
  | _ => .non
/-- what is due: None, the first index that is none, -1 -/
def dueV : PyData → V
  | .tuple ds => match firstNo ds with
    | none => .int (-1)
    | some i => .int (i : Nat)
  | _ => .non
def dueD : PyData → PyData
  | .tuple ds => match firstNo ds with
    | none => .none
    | some i => .int (i : Nat)
  | _ => .none
/-- an element that may stand in an order: texts not too long, a pair's number not too great -/
def smallE (d : PyData) : Bool := szD d && match d with
  | .tuple [.str _, .int i] => decide (i ≤ 10 ^ 100)
  | _ => true
/-- a value that is asked as an order -/
structure OddD (d : PyData) : Prop where
  sz : szD d = true
  len : ∀ ds, d = .tuple ds → ds.length ≤ 5000
  big : ∀ ps : Bag, d = bagD ps → ∀ p ∈ ps, p.2 ≤ 10 ^ 100
end TP

/-! literals: a reading that gives data -/
namespace TP
open PySem PySem.Spec PyProof.Rows L2 LamX
/-- from H on, the reading gives the data d -/
def GivesD (K : PySem.W.Frag) (σ : L2.St) (H : Hp) (te : TE) (d : PyData) : Prop := ∀ H0, Same H H0 → ∀ Q : VK, (∀ v H', Same H0 H' → Dx K H' v d → Q v H') → te σ H0 Q
def GivesA (K : PySem.W.Frag) (σ : L2.St) (H : Hp) (tr : TA) (ds : List PyData) : Prop := ∀ H0, Same H H0 → ∀ Q : List V → Hp → Prop, (∀ vs H', Same H0 H' → DxAll K H' vs ds → Q vs H') → tr σ H0 Q
/-- .. a list of its own -/
def GivesL (K : PySem.W.Frag) (σ : L2.St) (H : Hp) (te : TE) (ds : List PyData) : Prop := ∀ H0, Same H H0 → ∀ Q : VK, (∀ l xs H', Same H0 H' → H' l = some (.lst xs) → DxAll K H' xs ds → Q (.ref l) H') → te σ H0 Q
section
variable {K : PySem.W.Frag} {σ : L2.St} {H : Hp} {te : TE} {tr : TA} {d : PyData} {ds es : List PyData}
theorem gd_int {i : Int} : GivesD K σ H (tC (.int i)) (.int i) := fun H0 _ Q h => h _ _ (Same.refl _) (.int i)
theorem gd_neg {i : Int} : GivesD K σ H (tUn (rU fun i => .int (-i)) (tC (.int i))) (.int (-i)) := fun H0 _ Q h => ⟨i, rfl, h _ _ (Same.refl _) (.int _)⟩
theorem gd_str {x : Str} : GivesD K σ H (tC (.str x)) (.str x) := fun H0 _ Q h => h _ _ (Same.refl _) (.str x)
theorem gd_bl {b : Bool} : GivesD K σ H (tC (.bl b)) (.bool b) := fun H0 _ Q h => h _ _ (Same.refl _) (.bl b)
theorem gd_non : GivesD K σ H (tC .non) .none := fun H0 _ Q h => h _ _ (Same.refl _) .non
theorem gd_var {i : Nat} {v : V} (e : σ[i]? = some (some v)) (hd : Dx K H v d) : GivesD K σ H (tVar i) d := fun H0 s Q h => ⟨v, e, h v H0 (Same.refl _) (dx_same s hd)⟩
theorem gd_dct : GivesD K σ H tDNewK (.dict []) := fun H0 _ Q h p hp => h _ _ (same_new hp) (.dct upd_same)
theorem gd_pow {i j : Int} (h : CPow i j) : GivesD K σ H (tOp (rI CPow fun i j => .int (i ^ j.toNat)) (tC (.int i)) (tC (.int j))) (.int (i ^ j.toNat)) := fun H0 _ Q k => ⟨i, j, rfl, rfl, h, k _ _ (Same.refl _) (.int _)⟩
theorem ga_nil : GivesA K σ H tNil [] := fun H0 _ Q h => h _ _ (Same.refl _) .nil
theorem ga_cons (h1 : GivesD K σ H te d) (h2 : GivesA K σ H tr ds) : GivesA K σ H (tCons te tr) (d :: ds) := fun H0 s Q h =>
  h1 H0 s _ fun v H1 s1 hv => h2 H1 (s.trans s1) _ fun vs H2 s2 hvs => h _ _ (s1.trans s2) (.cons (dx_same s2 hv) hvs)
theorem gd_tup (h : GivesA K σ H tr ds) (hl : ds.length.ble 100000 = true) : GivesD K σ H (tTup tr) (.tuple ds) := fun H0 s Q k =>
  h H0 s _ fun vs H1 s1 hvs => ⟨by rw [dxs_len hvs]; exact sz_le (Nat.le_of_ble_eq_true hl), fun p hp => k _ _ (s1.trans (same_new hp)) (.tup (SqT.of upd_same) (dxs_same (same_new hp) hvs))⟩
theorem gl_lst (h : GivesA K σ H tr ds) (hl : ds.length.ble 100000 = true) : GivesL K σ H (tLst tr) ds := fun H0 s Q k =>
  h H0 s _ fun vs H1 s1 hvs => ⟨by rw [dxs_len hvs]; exact sz_le (Nat.le_of_ble_eq_true hl), fun p hp => k _ _ _ (s1.trans (same_new hp)) upd_same (dxs_same (same_new hp) hvs)⟩
theorem gl_d (h : GivesL K σ H te ds) : GivesD K σ H te (.list ds) := fun H0 s Q k => h H0 s Q fun l xs H' s' hl hx => k _ _ s' (.lst (SqL.of hl) hx)
end
theorem cut_mem {α : Type} {ds : List α} {lo hi : Option Int} : ∀ d ∈ cutL ds lo hi, d ∈ ds := fun d hd => by
  unfold cutL at hd
  exact List.mem_of_mem_drop (List.mem_of_mem_take hd)
theorem cutL_len {α : Type} (ds : List α) (lo hi : Option Int) : (cutL ds lo hi).length ≤ ds.length := by
  unfold cutL
  rw [List.length_take, List.length_drop]
  omega
section
variable {K : PySem.W.Frag} {σ : L2.St} {H : Hp} {ta tb : TE} {ds es : List PyData}
end
/-- elements that may stand in an order, at most n -/
def SmT (n : Nat) (ds : List PyData) : Prop := (∀ d ∈ ds, smallE d = true) ∧ ds.length ≤ n
theorem SmT.app {n m : Nat} {ds es : List PyData} (h : SmT n ds) (h' : SmT m es) : SmT (n + m) (ds ++ es) := ⟨fun d hd => (List.mem_append.mp hd).elim (h.1 d) (h'.1 d), by rw [List.length_append]; exact Nat.add_le_add h.2 h'.2⟩
theorem SmT.cut {n : Nat} {ds : List PyData} {lo hi : Option Int} (h : SmT n ds) : SmT n (cutL ds lo hi) := ⟨fun d hd => h.1 d (cut_mem d hd), Nat.le_trans (cutL_len _ _ _) h.2⟩
end TP

/-! any value as counts -/
namespace TP
open PySem PySem.Spec PyProof.Rows L2 LamX
/-- F tells the first index that is none -/
abbrev Ver := List PyData → Option Nat
def verV (F : Ver) : PyData → V
  | .tuple ds => optV (F ds)
  | _ => .non
def verDue (F : Ver) : PyData → V
  | .tuple ds => match F ds with
    | none => .int (-1)
    | some i => .int (i : Nat)
  | _ => .non
def verD (F : Ver) : PyData → PyData
  | .tuple ds => match F ds with
    | none => .none
    | some i => .int (i : Nat)
  | _ => .none
def verOk (F : Ver) : PyData → Bool
  | .tuple ds => (F ds).isNone
  | _ => false
abbrev badF (m : Int) : Ver := fun ds => firstBad ds m
/-- Summary(capacity, counts), of any values -/
def spInitX (K : PySem.W.Frag) : Sp := fun vs H Q E => ∃ (x dx : Addr) (v1 v2 : V) (d1 d2 : PyData), vs = [.ref x, v1, v2] ∧ H x = some (.ins (He.ga K "Summary") dx []) ∧ Dx K H v1 d1 ∧ Dx K H v2 d2 ∧ szD d2 = true ∧ (betD d1 1 8 = false → ∀ dd H', Same H H' → H' dd = some (.xd [("capacity", v1)]) → E (.ref (He.ga K "InvalidCapacity")) (some dd) H') ∧ (∀ c, d1 = .int c → 1 ≤ c → c ≤ 8 → (verOk (badF c) d2 = true → ∀ H', SameB x H H' → H' x = some (.ins (He.ga K "Summary") dx [("capacity", .int c), ("counts", v2)]) → Q .non H') ∧ (verOk (badF c) d2 = false → ∀ dd H', Same H H' → H' dd = some (.xd [("index", verV (badF c) d2)]) → E (.ref (He.ga K "InvalidSummary")) (some dd) H'))
/-! making inside lambdas: the written part told -/
section
variable {X : Cx} {CX : CXT} {k n : Nat} {C m q : Str} {st : Stmt} {dvs : List V} {ps ks : List Str} {js : List Nat} {sp : Sp} {E : XK} {p pos apos : Pos} {e o : Expr} {es : List Expr} {kws : List Keyword} {ta : TE} {t tk : TA} {fs : List Str}
end
end TP

namespace TP
open PySem PySem.Spec PyProof.Rows L2
abbrev emptyS (w : World) : Obj := { cls := .type "set", dict := none, data := .set #[] 0 (.fresh 0 0 (!w.params.followText "set-order")) }
/-! ### len(set(texts)) -/
/-- c different ones stand in the list -/
def Dst (xs : List Str) (c : Nat) : Prop := ∃ l : List Str, l.Nodup ∧ l.length = c ∧ ∀ k, k ∈ l ↔ k ∈ xs
theorem Dst.nil : Dst [] 0 := ⟨[], List.nodup_nil, rfl, fun _ => Iff.rfl⟩
theorem Dst.le {xs : List Str} {c : Nat} (h : Dst xs c) : c ≤ xs.length := by
  obtain ⟨l, nd, rfl, m⟩ := h
  exact nodup_sub_len nd fun k hk => (m k).1 hk
theorem Dst.old {xs : List Str} {c : Nat} {x : Str} (h : Dst xs c) (hx : x ∈ xs) : Dst (xs ++ [x]) c := by
  obtain ⟨l, nd, e, m⟩ := h
  refine ⟨l, nd, e, fun k => ?_⟩
  rw [m, List.mem_append, List.mem_singleton]
  exact ⟨.inl, fun z => z.elim id fun e => e ▸ hx⟩
theorem Dst.new {xs : List Str} {c : Nat} {x : Str} (h : Dst xs c) (hx : x ∉ xs) : Dst (xs ++ [x]) (c + 1) := by
  obtain ⟨l, nd, e, m⟩ := h
  refine ⟨x :: l, List.nodup_cons.mpr ⟨fun z => hx ((m x).1 z), nd⟩, by rw [List.length_cons, e], fun k => ?_⟩
  rw [List.mem_cons, m, List.mem_append, List.mem_singleton]
  exact Or.comm
section
variable {P : Program} {w : World} {A : Around} {E : Value → Shared → Prop} {s : Shared}
end
def tLenSetS (K : PySem.W.Frag) (ta : TE) : TE := fun σ H Q => ta σ H fun x H1 => ∃ l, ∃ xs : List Str, x = .ref l ∧ SqL K H1 l (xs.map V.str) ∧ xs.length ≤ 4000 ∧ ∀ c : Nat, Dst xs c → Q (.int c) H1
end TP

/-! any value as a merge plan -/
namespace TP
open PySem PySem.Spec PyProof.Rows L2 LamX
/-- the names of an order's runs -/
def ordNm : PyData → List Str
  | .tuple rs => rs.map nmD
  | _ => []
def noPlAt (ds : List PyData) (i : Nat) : Bool := decide (400 ≤ i) || (!orderD (ds.getD i .none) || decide (12 < (namesOf ((ds.take (i + 1)).flatMap ordNm)).length))
def firstPl (ds : List PyData) : Option Nat := (List.range ds.length).find? (noPlAt ds)
def planX : PyData → Bool
  | .tuple ds => (firstPl ds).isNone
  | _ => false
/-- a value that is asked as a merge plan -/
structure OddP (d : PyData) : Prop where
  sz : szD d = true
  shows : ShowsX d
  len : ∀ ds, d = .tuple ds → ds.length ≤ 5000
  row : ∀ ds rs, d = .tuple ds → .tuple rs ∈ ds → rs.length ≤ 5000
  big : ∀ rss : List Bag, d = .tuple (rss.map bagD) → (rss.map List.length).sum ≤ 4000 ∧ ∀ p ∈ rss.flatten, p.2 ≤ 10 ^ 90
/-! ### a comprehension of any values: the list that grows is hidden meanwhile -/
def listE (D : Addr) (acc : List V) : HO := .ext fun h => acc.length ≤ sizeLine ∧ ∃ (its : List Value) (n : Nat), Vals acc its ∧ h.get? D = some { cls := .type "list", data := .seq its.toArray n }
def tHideE (t : TE) : TE := fun σ H Q => ∃ d acc, H d = some (.lst acc) ∧ t σ (upd H d (listE d acc)) fun v H' => H' d = some (listE d acc) ∧ Q v (upd H' d (.lst acc))
/-- H's cells beside D stand in G -/
def BesD (D : Addr) (H G : Hp) : Prop := ∀ b o, b ≠ D → H b = some o → G b = some o
theorem rd_off {D a : Addr} {u : HO} {H G : Hp} (s : BesD D H G) (hD : a ≠ D) (h : Rd H a u) : Rd G a u := by
  rcases h with h | ⟨o, h⟩
  · exact .inl (s _ _ hD h)
  · exact .inr ⟨o, s _ _ hD h⟩
mutual
theorem dx_off {K : PySem.W.Frag} {D : Addr} {φ : Heap → Prop} {H G : Hp} (s : BesD D H G) (hD : H D = some (.ext φ)) : ∀ {v : V} {d : PyData}, Dx K H v d → Dx K G v d
  | _, _, .non => .non
  | _, _, .bl b => .bl b
  | _, _, .int i => .int i
  | _, _, .str x => .str x
  | _, _, .lst h r => .lst (h.imp (fun q => rd_off s (fun e => by subst e; rcases q with q | ⟨o, q⟩ <;> rw [hD] at q <;> cases q) q) id) (dxs_off s hD r)
  | _, _, .tup h r => .tup (h.imp (fun q => rd_off s (fun e => by subst e; rcases q with q | ⟨o, q⟩ <;> rw [hD] at q <;> cases q) q) id) (dxs_off s hD r)
  | _, _, .dct h => .dct (s _ _ (fun e => by rw [e, hD] at h; cases h) h)
theorem dxs_off {K : PySem.W.Frag} {D : Addr} {φ : Heap → Prop} {H G : Hp} (s : BesD D H G) (hD : H D = some (.ext φ)) : ∀ {vs : List V} {ds : List PyData}, DxAll K H vs ds → DxAll K G vs ds
  | _, _, .nil => .nil
  | _, _, .cons h r => .cons (dx_off s hD h) (dxs_off s hD r)
end
section
variable {J : It} {n : Nat} {G : Hp → Prop} {Y : Nat → Hp → V → Hp → Prop} {te : TE} {vs : List Nat} {σ : L2.St} {H1 : Hp} {D : Addr} {Q : VK}
end
end TP

/-! a comprehension of two fors: the runs of all orders -/
namespace TP
open PySem PySem.Spec PyProof.Rows L2 LamX
/-! ### values that are asked as merge plans -/
/-- an element: small, its runs few -/
def rowK (d : PyData) : Bool := szD d && (okX d && (decide (rbX d ≤ 20000) && (decide (d.depth ≤ 20) && match d with
  | .tuple rs => decide (rs.length ≤ 8) && rs.all fun r => match r with
    | .tuple [.str _, .int i] => decide (i ≤ 10 ^ 90)
    | _ => true
  | _ => true)))
theorem okXs_all : ∀ {ds : List PyData}, (∀ d ∈ ds, okX d = true) → okXs ds = true
  | [], _ => rfl
  | d :: ds, h => by
    show (okX d && okXs ds) = true
    rw [h d List.mem_cons_self, okXs_all fun e he => h e (List.mem_cons_of_mem _ he)]; rfl
theorem rbXs_le {m : Nat} : ∀ {ds : List PyData}, (∀ d ∈ ds, rbX d ≤ m) → rbXs ds ≤ ds.length * (m + 2)
  | [], _ => by simp [rbXs]
  | d :: ds, h => by
    have h1 := h d List.mem_cons_self
    have h2 := rbXs_le fun e he => h e (List.mem_cons_of_mem _ he)
    show rbX d + 2 + rbXs ds ≤ (ds.length + 1) * (m + 2)
    rw [Nat.succ_mul]; omega
/-- any written value, by looking -/
def wholeK (d : PyData) : Bool := szD d && (okX d && (decide (rbX d ≤ 16777216) && (decide (d.depth ≤ 60) && (topL d && match d with
  | .tuple ds => decide (ds.length ≤ 5000) && (decide ((ds.map fun r => match r with | .tuple rs => rs.length | _ => 0).sum ≤ 4000) && ds.all fun r => match r with
    | .tuple rs => decide (rs.length ≤ 5000) && rs.all fun q => match q with
      | .tuple [.str _, .int i] => decide (i ≤ 10 ^ 90)
      | _ => true
    | _ => true)
  | _ => true))))
/-! ### literals: backwards, as a list, from an index on -/
section
variable {K : PySem.W.Frag} {σ : L2.St} {H : Hp} {ta tb : TE} {ds es : List PyData}
end
/-! ### rows -/
/-! ### a tuple many times (more than 1000) -/
def rRepTB (K : PySem.W.Frag) : R2 := fun x y H Q => ∃ l k xs, x = .ref l ∧ y = .int k ∧ SqT K H l xs ∧ xs ≠ [] ∧ 2 ≤ k ∧ k ≤ 5000 ∧ xs.length ≤ 100 ∧ ∀ p, H p = none → Q (.ref p) (upd H p (.tup (List.replicate k.toNat xs).flatten))
section
variable {X : Cx}
end
end TP

/-! literals: a tuple of a comprehension over a text -/
namespace TP
open PySem PySem.Spec PyProof.Rows L2 LamX
section
variable {J : It} {n : Nat} {G : Hp → Prop} {Y : Nat → Hp → V → Hp → Prop} {g : TG} {te : TE} {vs : List Nat} {σ : L2.St} {H1 : Hp} {D : Addr} {Q : VK}
end
section
variable {K : PySem.W.Frag} {σ : L2.St} {H : Hp} {te elt : TE} {vs : List Nat} {j : Nat} {z : Str}
end
end TP

/-! the errors of slots -/
namespace TP
open PySem PySem.Spec PyProof.Rows L2 LamX
def spInitRX (K : PySem.W.Frag) : Sp := fun vs H Q E => ∃ (x dx : Addr) (v1 v2 : V) (d1 d2 : PyData), vs = [.ref x, v1, v2] ∧ H x = some (.ins (He.ga K "Replacing") dx []) ∧ Dx K H v1 d1 ∧ Dx K H v2 d2 ∧ szD d2 = true ∧ (betD d1 2 9 = false → ∀ dd H', Same H H' → H' dd = some (.xd [("slots", v1)]) → E (.ref (He.ga K "InvalidSlots")) (some dd) H') ∧ (∀ c, d1 = .int c → 2 ≤ c → c ≤ 9 → (verOk (badF c) d2 = true → ∀ H', SameB x H H' → H' x = some (.ins (He.ga K "Replacing") dx [("slots", .int c), ("counts", v2)]) → Q .non H') ∧ (verOk (badF c) d2 = false → ∀ dd H', Same H H' → H' dd = some (.xd [("index", verV (badF c) d2)]) → E (.ref (He.ga K "InvalidSummary")) (some dd) H'))
/-! ### == of lists: of unequal lengths, or of one text each -/
def rEqR : R2 := fun x y H Q => ∃ a b xs ys, x = .ref a ∧ y = .ref b ∧ H a = some (.lst xs) ∧ H b = some (.lst ys) ∧ ((xs.length ≠ ys.length ∧ Q (.bl false) H) ∨ ∃ s t : Str, xs = [.str s] ∧ ys = [.str t] ∧ PyData.strOk s = true ∧ PyData.strOk t = true ∧ Q (.bl (decide (s = t))) H)
/-! ### readings that give some data of a kind -/
def GivesP (K : PySem.W.Frag) (σ : L2.St) (H : Hp) (te : TE) (P : PyData → Prop) : Prop := ∀ H0, Same H H0 → ∀ Q : VK, (∀ v d H', Same H0 H' → Dx K H' v d → P d → Q v H') → te σ H0 Q
def GivesAP (K : PySem.W.Frag) (σ : L2.St) (H : Hp) (tr : TA) (P : List PyData → Prop) : Prop := ∀ H0, Same H H0 → ∀ Q : List V → Hp → Prop, (∀ vs ds H', Same H0 H' → DxAll K H' vs ds → P ds → Q vs H') → tr σ H0 Q
def GivesLP (K : PySem.W.Frag) (σ : L2.St) (H : Hp) (te : TE) (P : List PyData → Prop) : Prop := ∀ H0, Same H H0 → ∀ Q : VK, (∀ l xs ds H', Same H0 H' → H' l = some (.lst xs) → DxAll K H' xs ds → P ds → Q (.ref l) H') → te σ H0 Q
section
variable {K : PySem.W.Frag} {σ : L2.St} {H : Hp} {te ta tb : TE} {tr : TA} {d : PyData} {ds es : List PyData} {P P2 : PyData → Prop} {R R2 : List PyData → Prop}
end
/-! ### enumerate of a text -/
def IteS (x : Str) : It :=
  ⟨fun i _ => i < x.cps.size, fun i H v H' => ∃ T c, v = .ref T ∧ H T = none ∧ x.cps[i]? = some c ∧ H' = upd H T (.tup [.int (i : Nat), .str ⟨#[c]⟩]), fun i _ => i = x.cps.size⟩
def iEnumS (ta : TA) : TI := fun σ H R => ta σ H fun vs H1 => ∃ x, vs = [.str x] ∧ R (IteS x) H1
/-! ### values that are shown beside a word -/
def smO (d : PyData) : Bool := szD d && (okX d && (decide (rbX d ≤ 4000) && (decide (d.depth ≤ 20) && (!d.hasDict || noL d))))
/-! ### the first place where a tuple goes wrong -/
/-- a value and an index, as a list -/
def PairL (F : PyData → Prop) (G : PyData → PyData → Prop) (e : PyData) : Prop := ∃ x i, e = .list [x, i] ∧ F x ∧ G x i
/-! ### slots: what is asked and what is due (k51) -/
def askE (i : Int) (d0 d1 d2 d3 d4 : PyData) (v0 v2 v3 : V) : Option (Str × Str × V) :=
  if i < 2 then (match d0 with
    | .int c => if betD (.int c) 2 9 = false then some ("InvalidSlots", "slots", v0) else if verOk (badF c) d1 = false then some ("InvalidSummary", "index", verV (badF c) d1) else none
    | _ => some ("InvalidSlots", "slots", v0))
  else if i < 6 then (if nameD d2 = false then some ("InvalidName", "name", v2) else if i < 4 ∧ fromD d3 1 = false then some ("InvalidTimes", "times", v3) else none)
  else if orderD d4 = false then some ("InvalidOrder", "index", ordV d4) else none
def firstE (i : Int) (b0 b1 b2 b3 b4 : Bool) (v0 v2 v3 e0 e1 : V) : List V :=
  if i < 2 then if b0 = true then [.str "slots", v0] else if b1 = true then [.str "summary", e0] else [.str "returned"]
  else if i < 6 then if b2 = true then [.str "name", v2] else if b3 = true ∧ i < 4 then [.str "times", v3] else [.str "returned"]
  else if b4 = true then [.str "order", e1] else [.str "returned"]
structure GivE (c : Int) (b0 b1 b2 b3 b4 : Bool) (d0 d1 d2 d3 d4 : PyData) (e0 e1 : V) : Prop where
  c2 : 2 ≤ c
  c9 : c ≤ 9
  h0 : b0 = true → betD d0 2 9 = false
  g0 : b0 = false → d0 = .int c
  h1 : b1 = true → verOk (badF c) d1 = false ∧ verV (badF c) d1 = e0
  g1 : b1 = false → verOk (badF c) d1 = true
  h2 : b2 = true → nameD d2 = false
  g2 : b2 = false → nameD d2 = true
  h3 : b3 = true → fromD d3 1 = false
  g3 : b3 = false → fromD d3 1 = true
  h4 : b4 = true → orderD d4 = false ∧ ordV d4 = e1
  g4 : b4 = false → orderD d4 = true
end TP

/-! repr of lists in which objects of the program stand -/
namespace TP
open PySem PySem.Spec PyProof.Rows L2 LamX
/-! ### a def that is called whatever reprs are under way -/
structure FnA (P : Program) (w : World) (K : PySem.W.Frag) (mg : Str → Option Value) (base : Heap) (CX : CXT) (k : Nat) (f : Addr) (fd : FuncData) (ps : List Str) (sp : Sp) : Prop where
  len : ∀ vs H Q E, sp vs H Q E → vs.length = ps.length
  run : ∀ (A : Around) (outer : List Env) (s : Shared) (H : Hp) (args : Args) (us : List Value) (vs : List V) (Q : VK) (E : XK), Room k A →
    Env0 P w K mg base A outer s H → BindsTo s fd args (ps.zip us) → Vals vs us → sp vs H Q E → codeAny (model P w) A (.call (.ref f) args) (CR CX outer P w H s Q E) s
theorem fnA_of {CX : CXT} {P : Program} {w : World} {K : PySem.W.Frag} {mg : Str → Option Value} {base : Heap} {k : Nat} {f : Addr} {x qual : Str} {params : Arguments} {body : List Stmt} {scope : Scope} {dvs : List V} {kws : List (Str × V)} {fd : FuncData} {N ps : List Str} {sp : Sp}
    (F : FunD K x qual params body scope dvs kws f fd) (S : FnScope N ps scope) (len : ∀ vs H Q E, sp vs H Q E → vs.length = ps.length)
    (hbody : ∀ (cdv : Value) (A : Around) (outer : List Env) (s : Shared) (H : Hp) (vs : List V) (Q : VK) (E : XK), Room k (A.deeper (envOfC qual scope s.heap.objs.size f cdv)) → sp vs H Q E →
      ∃ t, PSs (cxOf CX P w K mg base N qual scope f cdv A outer s H E) body t ∧ t { nx := fun _ H' => Q .non H', rt := Q } (L2.start N vs) H) :
    FnA P w K mg base CX (k + 1) f fd ps sp := by
  obtain ⟨oc, od, dV, kV, doc, pm, an, cdv, ct, osl, rfl, lk, hcd, _, _⟩ := F.ex
  refine ⟨len, fun A outer s H args us vs Q E hr e0 hb r hsp => ?_⟩
  have hl := len _ _ _ _ hsp
  have kx : K.In s.heap := e0.mod.kin.keeps fun b o e => (e0.bs b o e).1
  have nl : s.heap.NoLimit := e0.mod.nolimit.keeps fun b o e => (e0.bs b o e).1
  refine codeAny_call_function hr.depth (kx _ _ lk) rfl S.co S.gen rfl (PySem.W.codeRec_of kx hcd) (hb _ _ _ _ ?_)
  refine wpAny_newFunctionEnv_cells S.kind (fun ⟨n, v⟩ hy => by
    rcases S.par n (List.of_mem_zip hy).1 with q | q
    · exact .inl q
    · exact .inr ⟨q, PySem.W.cellsFrom_some _ _ _ (.inl q)⟩) fun env he s1 ic => ?_
  subst he
  refine ⟨nl.keeps ic.toInCall.keep, codeAny_func ?_⟩
  obtain ⟨t, ht, hq⟩ := hbody cdv A outer s H vs Q E (hr.deeper _) hsp
  have I0 := inv_start (CX := CX) (E := E) S hr.hd e0 hl r ic
  refine wpAny_mono (ht.run [] s1 (L2.start N vs) H _ I0 hq) (fun fl s' hs => ?_) fun e s' hs => hs
  cases fl with
  | ret u =>
    obtain ⟨v, σ', H', J, rv, q⟩ := hs
    exact ⟨v, H', J.os, J.bare, J.base, J.hok, rv, q⟩
  | next =>
    obtain ⟨σ', H', J, q⟩ := hs
    exact ⟨.non, H', J.os, J.bare, J.base, J.hok, rfl, q⟩
  | brk =>
    obtain ⟨_, _, _, q⟩ := hs
    exact q.elim
  | cont =>
    obtain ⟨_, _, _, q⟩ := hs
    exact q.elim
structure HasA (P : Program) (w : World) (K : PySem.W.Frag) (mg : Str → Option Value) (base : Heap) (CX : CXT) (k : Nat) (x : Str) (st : Stmt) (ps : List Str) (sp : Sp) : Prop where
  ex : ∃ fd, FunD K x x (defArgs st) (defBody st) (defScope st) [] [] (He.ga K x) fd ∧ FnA P w K mg base CX k (He.ga K x) fd ps sp
  glo : mg x = some (.ref (He.ga K x))
structure HasMA (P : Program) (w : World) (K : PySem.W.Frag) (mg : Str → Option Value) (base : Heap) (CX : CXT) (k : Nat) (C m q : Str) (st : Stmt) (dvs : List V) (ps : List Str) (sp : Sp) : Prop where
  ex : ∃ fd, FunD K m q (defArgs st) (defBody st) (defScope st) dvs [] (He.ma K (He.ga K C) m) fd ∧ FnA P w K mg base CX k (He.ma K (He.ga K C) m) fd ps sp
  mt : Meth K (He.ga K C) m (He.ma K (He.ga K C) m)
section
variable {P : Program} {w : World} {K : PySem.W.Frag} {mg : Str → Option Value} {base : Heap} {CX : CXT} {k : Nat} {x C m q : Str} {st : Stmt} {dvs : List V} {N ps : List Str} {sp : Sp}
theorem Dfd.hasA (D : Dfd K mg x st) (S : FnScope N ps (defScope st)) (len : ∀ vs H Q E, sp vs H Q E → vs.length = ps.length)
    (hbody : ∀ (cdv : Value) (A : Around) (outer : List Env) (s : Shared) (H : Hp) (vs : List V) (Q : VK) (E : XK), Room k (A.deeper (envOfC x (defScope st) s.heap.objs.size (He.ga K x) cdv)) → sp vs H Q E →
      ∃ t, PSs (cxOf CX P w K mg base N x (defScope st) (He.ga K x) cdv A outer s H E) (defBody st) t ∧ t { nx := fun _ H' => Q .non H', rt := Q } (L2.start N vs) H) :
    HasA P w K mg base CX (k + 1) x st ps sp := by
  obtain ⟨fd, F⟩ := D.ex
  exact ⟨⟨fd, F, fnA_of F S len hbody⟩, D.glo⟩
theorem DfdM.hasA (D : DfdM K C m q st dvs) (S : FnScope N ps (defScope st)) (len : ∀ vs H Q E, sp vs H Q E → vs.length = ps.length)
    (hbody : ∀ (cdv : Value) (A : Around) (outer : List Env) (s : Shared) (H : Hp) (vs : List V) (Q : VK) (E : XK), Room k (A.deeper (envOfC q (defScope st) s.heap.objs.size (He.ma K (He.ga K C) m) cdv)) → sp vs H Q E →
      ∃ t, PSs (cxOf CX P w K mg base N q (defScope st) (He.ma K (He.ga K C) m) cdv A outer s H E) (defBody st) t ∧ t { nx := fun _ H' => Q .non H', rt := Q } (L2.start N vs) H) :
    HasMA P w K mg base CX (k + 1) C m q st dvs ps sp := by
  obtain ⟨fd, F⟩ := D.ex
  exact ⟨⟨fd, F, fnA_of F S len hbody⟩, D.mt⟩
end
section
variable {P : Program} {w : World} {K : PySem.W.Frag} {mg : Str → Option Value} {base : Heap} {CX : CXT} {k : Nat} {x C m q : Str} {st : Stmt} {dvs : List V} {ps : List Str} {sp : Sp}
theorem HasA.has (h : HasA P w K mg base CX k x st ps sp) : Has P w K mg base CX k x st ps sp := by
  obtain ⟨⟨fd, F, G⟩, g⟩ := h
  exact ⟨⟨fd, F, G.len, fun A outer s H args us vs Q E hr _ => G.run A outer s H args us vs Q E hr⟩, g⟩
theorem HasMA.hasM (h : HasMA P w K mg base CX k C m q st dvs ps sp) : HasM P w K mg base CX k C m q st dvs ps sp := by
  obtain ⟨⟨fd, F, G⟩, g⟩ := h
  exact ⟨⟨fd, F, G.len, fun A outer s H args us vs Q E hr _ => G.run A outer s H args us vs Q E hr⟩, g⟩
end
section
variable {X : Cx} {CX : CXT} {k : Nat} {f : Addr} {fd : FuncData} {ps : List Str} {sp : Sp} {E : XK} {x : Str} {st : Stmt} {p pos : Pos} {e : Expr} {es : List Expr} {t : TA}
theorem runA {pins : List (Addr × Obj)} {σ : L2.St} {H : Hp} {s : Shared} {Q : VK} {us : List Value} {args : Args} {vs : List V} (F : FnA X.prog X.w X.K X.mg X.base CX k f fd ps sp) (hr : Room k X.A) (hx : Passes CX X E)
    (I : Inv X pins σ H s) (r : Vals vs us) (hb : BindsTo s fd args (ps.zip us)) (h : sp vs H Q E) : wpAny (model X.prog X.w) X.A (call (.ref f) args.pos args.kw) (EP X pins σ Q) X.xe s := by
  refine wpAny_call (codeAny_mono (F.run X.A X.stack s H args us vs Q E hr I.env0 hb r h) fun z s' hq => ?_)
  cases z with
  | error e => exact hx pins σ H s e s' I hq
  | ok fl =>
    cases fl with
    | ret u => exact I.after hq
    | next => exact hq.elim
    | brk => exact hq.elim
    | cont => exact hq.elim
theorem pe_fnA (F : HasA X.prog X.w X.K X.mg X.base CX k x st ps sp) (hb : PosB x st ps) (hr : Room k X.A) (hgl : Gl X x) (hx : Passes CX X E)
    (ha : PA X (e :: es) t) (hdb : (x == ("__debug__" : Str)) = false := by decide) (he : starEach (e :: es) X.env = (false, eval e X.env) :: starEach es X.env := by rfl)
    (hpl : (backTo pos (starEach es X.env)).any (·.1) = false := by rfl) : PE X (.Call (.Name x p) (e :: es) [] pos) (tCall sp [] E t) := by
  obtain ⟨fd, FD, G⟩ := F.ex
  refine ⟨fun pins s σ H Q I h => ?_⟩
  refine wpAny_Call_Name_kw (ld_glob I hgl F.glo ?_ hdb)
  refine PySem.W.callWith_K (h₀ := X.base) I.ok.mod.kin FD.kp (thn (ha.run pos pins s σ H _ I h) fun us s1 ⟨vs, H1, I1, r, q⟩ => ⟨I1.kIn, ?_⟩) he hpl
  have q2 : sp vs H1 Q E := by rw [← List.append_nil vs]; exact q
  obtain ⟨kV, doc, pm, an, cdv, ct, rfl⟩ := FunD.noDef FD
  exact runA (args := ⟨us, []⟩) G hr hx I1 r (.of_eq (hb kV doc pm an cdv ct us (by rw [← r.length]; exact G.len _ _ _ _ q2))) q2
/-- what an own object's repr is asked inside another repr -/
theorem under_own {K : PySem.W.Frag} {A : Around} {s : Shared} {Er : Value → Shared → Prop} {Q : Value → Shared → Prop} {base : Nat} {a C g : Addr} {ox : Obj} {od : Option Obj} (hu : A.units < cLine) (kx : K.In s.heap) (I : PySem.W.InstAt s.heap a ox C od)
    (hs : PySem.W.findIn K (.ref C) "__repr__" = some (some (.ref g))) (hf : PySem.W.isFn K (.ref g) = true) (h : wpAny (model X.prog X.w) A (call (.ref g) [.ref a]) (PySem.W.StrBack Q) Er s) :
    wpAny (model X.prog X.w) A (pyReprObjUnder base (.ref a)) (fun v s' => ∃ x u, v = .str x u ∧ Q v s') Er s := by
  unfold pyReprObjUnder pyReprObjBy
  refine wpAny_bind (wpAny_cRoomFor hu ?_)
  refine wpAny_bind (wpAny_bind (I.type.here ((PySem.W.looks_findIn kx hs).here ?_)))
  show wpAny _ _ (if (some (Value.ref g)).isNone = true then _ else _) _ _ _
  rw [if_neg (by simp)]
  have fin : wpAny (model X.prog X.w) A (call (.ref g) ([.ref a] ++ []) >>= fun v => pure (some v)) (fun o s' => ∃ x u, o = some (.str x u) ∧ Q (.str x u) s') Er s :=
    wpAny_bind (wpAny_mono h (fun v s' h' => wpAny_pure (by cases v <;> first | exact h'.elim | exact ⟨_, _, rfl, h'⟩)) fun _ _ h' => h')
  refine wpAny_bind (wpAny_mono (Q := fun o s' => ∃ x u, o = some (.str x u) ∧ Q (.str x u) s') (E := Er) ?_ (fun o s' ho => ?_) fun _ _ h' => h')
  · simp only [callSpecialIfBoundBy?, bindSpecialIfBound?]
    refine wpAny_holding (wpAny_bind (wpAny_bind (wpAny_bind (I.type.here ((PySem.W.looks_findIn kx hs).here ?_)))))
    refine wpAny_bind (wpAny_askSetting (wpAny_ite ?_))
    have bf := PySem.W.bind_fn (M := model X.prog X.w) kx (.ref a) (beq_iff_eq.mp hf)
    split
    · exact wpAny_bind (bf.here (wpAny_pure (by exact fin)))
    · exact wpAny_tryCatch (wpAny_bind (bf.here (wpAny_pure (by exact fin))))
  · obtain ⟨x, u, rfl, hq⟩ := ho
    exact wpAny_bind (wpAny_isInstance (typeIs_str _ _ _) isSubtype_str_str (wpAny_pure ⟨_, _, rfl, hq⟩))
end
/-! ### values in which own objects stand, and what they show -/
mutual
/-- v is shown as t; lists stand so deep in it -/
inductive Sv (RS : Hp → V → Str → Prop) (H : Hp) : V → Str → Nat → Prop
  | non : Sv RS H .non "None" 0
  | bl (b : Bool) : Sv RS H (.bl b) (if b = true then "True" else "False") 0
  | int (i : Int) : i.natAbs.log2 < 1920 → Sv RS H (.int i) (toString i) 0
  | str (x : Str) : (reprText x).length ≤ sizeLine → Sv RS H (.str x) (reprText x) 0
  | own {v : V} {t : Str} : RS H v t → Sv RS H v t 0
  | dct {a : Addr} : H a = some (.dK []) → Sv RS H (.ref a) (dictText []) 0
  | lst {a : Addr} {xs : List V} {ts : List Str} {d : Nat} : H a = some (.lst xs) → SvAll RS H xs ts d → Sv RS H (.ref a) (listText ts) (d + 1)
inductive SvAll (RS : Hp → V → Str → Prop) (H : Hp) : List V → List Str → Nat → Prop
  | nil : SvAll RS H [] [] 0
  | cons {v : V} {t : Str} {xs : List V} {ts : List Str} {d e : Nat} : Sv RS H v t d → SvAll RS H xs ts e → SvAll RS H (v :: xs) (t :: ts) (max d e)
end
section
variable {RS : Hp → V → Str → Prop} {H H' : Hp}
mutual
theorem sv_same (s : Same H H') (hR : ∀ v t, RS H v t → RS H' v t) : ∀ {v : V} {t : Str} {d : Nat}, Sv RS H v t d → Sv RS H' v t d
  | _, _, _, .non => .non
  | _, _, _, .bl b => .bl b
  | _, _, _, .int i h => .int i h
  | _, _, _, .str x h => .str x h
  | _, _, _, .own h => .own (hR _ _ h)
  | _, _, _, .dct h => .dct (s _ _ h)
  | _, _, _, .lst h r => .lst (s _ _ h) (svs_same s hR r)
theorem svs_same (s : Same H H') (hR : ∀ v t, RS H v t → RS H' v t) : ∀ {xs : List V} {ts : List Str} {d : Nat}, SvAll RS H xs ts d → SvAll RS H' xs ts d
  | _, _, _, .nil => .nil
  | _, _, _, .cons h r => .cons (sv_same s hR h) (svs_same s hR r)
end
theorem svs_len : ∀ {xs : List V} {ts : List Str} {d : Nat}, SvAll RS H xs ts d → ts.length = xs.length
  | _, _, _, .nil => rfl
  | _, _, _, .cons _ r => by simp [svs_len r]
variable (hx : ∀ a t xs, RS H (.ref a) t → H a ≠ some (.lst xs))
include hx
mutual
/-- the depth is told by the value -/
theorem sv_deep : ∀ {v : V} {t t' : Str} {d d' : Nat}, Sv RS H v t d → Sv RS H v t' d' → d = d'
  | _, _, _, _, _, .non, h => by cases h <;> rfl
  | _, _, _, _, _, .bl b, h => by cases h <;> rfl
  | _, _, _, _, _, .int i _, h => by cases h <;> rfl
  | _, _, _, _, _, .str x _, h => by cases h <;> rfl
  | _, _, _, _, _, .own h1, h => by
    cases h with
    | lst h2 _ => exact absurd h2 (hx _ _ _ h1)
    | _ => rfl
  | _, _, _, _, _, .dct h1, h => by
    cases h with
    | lst h2 _ => rw [h1] at h2; cases h2
    | _ => rfl
  | _, _, _, _, _, .lst h1 r1, h => by
    cases h with
    | own h2 => exact absurd h1 (hx _ _ _ h2)
    | dct h2 => rw [h1] at h2; cases h2
    | lst h2 r2 =>
      rw [h1] at h2
      cases h2
      exact congrArg (· + 1) (svs_deep r1 r2)
theorem svs_deep : ∀ {xs : List V} {ts ts' : List Str} {d d' : Nat}, SvAll RS H xs ts d → SvAll RS H xs ts' d' → d = d'
  | _, _, _, _, _, .nil, h => by cases h; rfl
  | _, _, _, _, _, .cons h1 r1, h => by
    cases h with
    | cons h2 r2 => rw [sv_deep h1 h2, svs_deep r1 r2]
end
end
end TP
namespace TP
open PySem PySem.Spec PyProof.Rows L2 LamX
open Builtin Builtin.List
/-- of the lists of depth at most d none is under way -/
def ClrS (RS : Hp → V → Str → Prop) (H0 : Hp) (g : List Code) (d : Nat) : Prop := ∀ a t e, e ≤ d → Sv RS H0 (.ref a) t e → Clear g a
/-- inside another repr, v gives the text t -/
def Els (X : Cx) (RS : Hp → V → Str → Prop) (H0 : Hp) (k : Nat) (v : V) (t : Str) (d : Nat) : Prop := ∀ (pins : List (Addr × Obj)) (σ : L2.St) (H : Hp) (s : Shared) (u : Value) (base : Nat) (A : Around) (g : List Code) (E : Value → Shared → Prop) (Q : Str → Shared → Prop),
  Same H0 H → Inv X pins σ H s → RelV v u → base + t.length ≤ sizeLine → A.guards = some g → ClrS RS H0 g d → A.frames = X.A.frames → Room (k + d) A → (∀ H' s', Same H H' → Inv X pins σ H' s' → Q t s') → wpAny (model X.prog X.w) A (pyReprUnder base u) Q E s
theorem ClrS.le {RS : Hp → V → Str → Prop} {H0 : Hp} {g : List Code} {d e : Nat} (h : ClrS RS H0 g d) (he : e ≤ d) : ClrS RS H0 g e := fun a t e' h1 h2 => h a t e' (Nat.le_trans h1 he) h2
/-- what stands around the loop's elements -/
def inLoop (A : Around) (args : Args) : Around := A.under (.builtin "list.__repr__.loop" args)
theorem inLoop_frames {A : Around} {args : Args} (h : A.frames ≠ none) : (inLoop A args).frames = A.frames := by
  cases e : A.frames with
  | none => exact absurd e h
  | some l =>
    have q : (Code.builtin "list.__repr__.loop" args).isFrame = false := rfl
    simp [inLoop, Around.under, Code.envs, pushEnvs, e, q, Code.frames]
theorem inLoop_room {A : Around} {args : Args} {k : Nat} (h : Room (k + 1) A) : Room k (inLoop A args) := by
  refine ⟨h.hd, ?_, ?_⟩
  · have h1 := h.dp
    show (A.under (.builtin "list.__repr__.loop" args)).depth + 3 * k + 5 < _
    have : (A.under (.builtin "list.__repr__.loop" args)).depth ≤ A.depth + 1 := by
      simp [Around.under, Code.weight, Code.isCreation, Code.isGuard, Code.isCaller, Code.frames, Code.isFrame, guardIds]
    omega
  · have h1 := h.un
    show (A.under (.builtin "list.__repr__.loop" args)).units + 16 * k + 200 < _
    rw [units_under_list_loop]
    omega
section
variable {X : Cx} {RS : Hp → V → Str → Prop} {H0 : Hp} {k : Nat}
theorem loopO {A : Around} {g : List Code} {a P : Addr} {xs : List V} {ts : List Str} {d base : Nat} {pins : List (Addr × Obj)} {σ : L2.St} {R : Result → Shared → Prop} {Hs : Hp} (h0 : H0 a = some (.lst xs)) (hs0 : Same H0 Hs) (hne : a ≠ P) (hg : A.guards = some g) (hcl : ∀ rest kw, ClrS RS H0 (.builtin "list.__repr__.loop" ⟨.ref a :: rest, kw⟩ :: g) d)
    (hf : A.frames = X.A.frames) (hr : Room (k + d + 1) A) (hlen : ts.length = xs.length) (hT : ∀ (i : Nat) (v : V), xs[i]? = some v → ∃ t e, ts[i]? = some t ∧ e ≤ d ∧ Els X RS H0 k v t e) (hsz : base + (listText ts).length ≤ sizeLine)
    (hR : ∀ H' s' u, Same Hs H' → Inv X pins σ H' s' → R (.ok (.ret (.str (listText ts) u))) s') :
    ∀ (m i : Nat) (H : Hp) (s : Shared) (acc : Array Value) (c : Nat) (done : List (Str × Tok)), xs.length - i = m → i ≤ xs.length → Same Hs H → Inv X pins σ H s → FpOk X pins H P →
      s.heap.get? P = some { cls := .type "list", dict := none, data := .seq acc c, slots := #[] } → acc.toList = strValues done → done.map (·.1) = ts.take i →
      codeAny (model X.prog X.w) A (.builtin "list.__repr__.loop" ⟨[.ref a, rawInt i, .ref P, rawInt ((base + piled (ts.take i) : Nat) : Int)], []⟩) R s := by
  have hX : (listText ts).length = (textFrom 0 "[" ts).length + 1 := by
    show (textFrom 0 "[" ts ++ "]").length = _
    rw [strLen_append]
    rfl
  have hL := textFrom_len ts 0 "["
  have z1 : ts.length ≤ sizeLine := by
    have q := hL.1
    rw [if_neg (Nat.lt_irrefl 0)] at q
    omega
  have z3 := piled_le_listText ts
  intro m
  induction m with
  | zero =>
    intro i H s acc c done hm hi hs I hP hPo hacc hdone
    obtain ⟨its, rv, ⟨o, n, ho, _, _, hd⟩, _⟩ := I.list (SqL.of (hs _ _ (hs0 _ _ h0)))
    have el := rv.length
    refine codeAny_builtin F.entry_list_repr_loop ?_
    show wpAny _ _ («list.__repr__.loop» ⟨[.ref a, .int i 0, .ref P, .int ((base + piled (ts.take i) : Nat) : Int) 0], []⟩) _ _ s
    rw [repr_loop_tree]
    refine wpAny_bind (wpAny_listItems ho hd ?_)
    have e0 : its.toArray[(i : Int).toNat]? = none := by
      rw [Int.toNat_natCast, List.getElem?_toArray]
      exact List.getElem?_eq_none (by omega)
    simp only [e0]
    unfold reprEnd
    refine wpAny_bind (wpAny_listItems hPo rfl ?_)
    rw [hacc, repr_fold]
    refine wpAny_bind (wpAny_pure ?_)
    rw [show done.map (·.1) = ts by rw [hdone]; exact List.take_of_length_le (by omega)]
    refine wpAny_bind (wpAny_mkStr (wpAny_pure ?_) (show (listText ts).length ≤ sizeLine by omega))
    exact hR H _ _ hs (I.tok _)
  | succ m ih =>
    intro i H s acc c done hm hi hs I hP hPo hacc hdone
    have hlt : i < xs.length := by omega
    obtain ⟨its, rv, ⟨o, n, ho, _, _, hd⟩, _⟩ := I.list (SqL.of (hs _ _ (hs0 _ _ h0)))
    have el := rv.length
    have hit : i < its.length := by omega
    obtain ⟨t, e, ht, he, hel⟩ := hT i xs[i] (List.getElem?_eq_getElem hlt)
    have p1 := piled_take_succ ht
    have p2 := piled_take_le ts (i + 1)
    have rx : RelV xs[i] its[i] := by
      obtain ⟨u, e1, e2⟩ := Vals.get rv (List.getElem?_eq_getElem hlt)
      rw [List.getElem?_eq_getElem hit] at e1
      rw [Option.some.inj e1]
      exact e2
    refine codeAny_builtin F.entry_list_repr_loop ?_
    show wpAny _ _ («list.__repr__.loop» ⟨[.ref a, .int i 0, .ref P, .int ((base + piled (ts.take i) : Nat) : Int) 0], []⟩) _ _ s
    rw [repr_loop_tree]
    refine wpAny_bind (wpAny_listItems ho hd ?_)
    have e0 : its.toArray[(i : Int).toNat]? = some its[i] := by
      rw [Int.toNat_natCast, List.getElem?_toArray]
      exact List.getElem?_eq_getElem hit
    simp only [e0]
    rw [Int.toNat_natCast]
    have Ip := I.pinned (fp := [P]) (fun b hb => by rw [List.mem_singleton.mp hb]; exact hP) fun b hb => by rw [List.mem_singleton.mp hb]; exact ⟨_, hPo, nofun⟩
    refine wpAny_bind (wpAny_holding (hel (pins ++ pinsAt [P] s.heap) σ H s its[i] (base + piled (ts.take i) + 1) (inLoop A _) _ _ _ (hs0.trans hs) Ip rx (by omega) (guards_under_guard (isGuard_list_loop _) hg) ?_ ((inLoop_frames ?_).trans hf) ?_ fun H' s' hs' I' => ?_))
    · exact (hcl _ _).le he
    · rw [hf, I.ok.frames]; nofun
    · exact inLoop_room (hr.mono (by omega))
    obtain ⟨q1, q2, _⟩ := I'.pin (P, _) (List.mem_append_right _ (List.mem_append_right _ (mem_pinsAt (List.mem_singleton.mpr rfl) hPo)))
    have I2 := I'.unpinned
    have hP' : FpOk X pins H' P := ⟨q2, hP.2⟩
    refine wpAny_bind (wpAny_mkStr ?_ (by omega))
    refine wpAny_bind ?_
    show wpAny _ _ (updateSeq P _) _ _ _
    have za : acc.size ≤ sizeLine := by
      have w1 : acc.toList.length = acc.size := by simp
      have w2 : (strValues done).length = done.length := by simp [strValues]
      have w3 : done.length = (ts.take i).length := by rw [← hdone, List.length_map]
      have w4 : (ts.take i).length ≤ i := by rw [List.length_take]; omega
      rw [hacc] at w1
      omega
    refine wpAny_updateSeq q1 rfl (wpAny_pure ⟨F.quiet_list_repr_loop _, ?_⟩) za
    have w5 : ((i : Int) + 1) = ((i + 1 : Nat) : Int) := by omega
    have w6 : base + piled (ts.take i) + (t.length + 2) = base + piled (ts.take (i + 1)) := by omega
    rw [w5, w6]
    refine ih (i + 1) H' _ (acc.push (.str t s'.toks)) _ (done ++ [(t, s'.toks)]) (by omega) hlt (hs.trans hs') ((I2.tok _).turnedL (ch := [P]) (fun b o hb q => (Heap.get?_update_other _ _ (fun z => hb (by rw [z]; exact List.mem_singleton.mpr rfl))).trans q) fun b hb => by rw [List.mem_singleton.mp hb]; exact hP') hP' (Heap.get?_update_self _ q1 rfl) ?_ ?_
    · simp [hacc, strValues]
    · rw [List.map_append, hdone, List.take_succ, ht]; rfl
theorem listO {A : Around} {g : List Code} {a : Addr} {xs : List V} {ts : List Str} {d base : Nat} {pins : List (Addr × Obj)} {σ : L2.St} {R : Result → Shared → Prop} {H : Hp} {s : Shared} (hx : ∀ a t xs, RS H0 (.ref a) t → H0 a ≠ some (.lst xs)) (h0 : H0 a = some (.lst xs)) (hsv : SvAll RS H0 xs ts d) (hne : xs ≠ []) (hs : Same H0 H) (I : Inv X pins σ H s)
    (hg : A.guards = some g) (hcl : ClrS RS H0 g (d + 1)) (hf : A.frames = X.A.frames) (hr : Room (k + d + 1) A) (hT : ∀ (i : Nat) (v : V), xs[i]? = some v → ∃ t e, ts[i]? = some t ∧ e ≤ d ∧ Els X RS H0 k v t e) (hsz : base + (listText ts).length ≤ sizeLine)
    (hR : ∀ H' s' u, Same H H' → Inv X pins σ H' s' → R (.ok (.ret (.str (listText ts) u))) s') :
    wpAny (model X.prog X.w) A.in1 (Builtin.listReprAt base ⟨[.ref a], []⟩) (fun fin s' => match fin with | .done f => R (.ok f) s' | .again c' => c'.quiet = true ∧ codeAny (model X.prog X.w) A c' R s') (fun e s' => R (.error e) s') s := by
  obtain ⟨its, rv, ⟨o, n, ho, _, _, hd⟩, _⟩ := I.list (SqL.of (hs _ _ h0))
  have hca : Clear g a := hcl a _ _ (Nat.le_refl _) (.lst h0 hsv)
  cases its with
  | nil => exact absurd (List.eq_nil_of_length_eq_zero rv.length) hne
  | cons y l =>
    refine wpAny_list_repr_head (A := A.in1) hg (fun v rest kw hm => listSameRef_of_ne (hca _ _ _ _ hm)) ho hd ?_
    refine wpAny_bind (m := newList []) (wpAny_newObj_type ?_)
    refine wpAny_pure ⟨F.quiet_list_repr_loop _, ?_⟩
    refine loopO (d := d) (P := s.heap.objs.size) (Hs := H) h0 hs (Nat.ne_of_lt (Heap.lt_size ho)) hg (fun rest kw b t e he hb => ?_) hf hr (svs_len hsv) hT hsz hR _ 0 H _ #[] _ [] rfl (Nat.zero_le _) (Same.refl _) (I.kept fun b o e => Heap.get?_push_of_some _ e) (I.fpOk (Nat.le_refl _) (I.hok.fresh (Nat.le_refl _))) (Heap.get?_push_size _ rfl) rfl (by simp)
    exact (hcl b t e (by omega) hb).cons fun z => by
      subst z
      have := sv_deep hx hb (.lst h0 hsv)
      omega
theorem els_lst {a : Addr} {xs : List V} {ts : List Str} {d : Nat} (hx : ∀ a t xs, RS H0 (.ref a) t → H0 a ≠ some (.lst xs)) (h0 : H0 a = some (.lst xs)) (hsv : SvAll RS H0 xs ts d) (hT : ∀ (i : Nat) (v : V), xs[i]? = some v → ∃ t e, ts[i]? = some t ∧ e ≤ d ∧ Els X RS H0 k v t e) : Els X RS H0 k (.ref a) (listText ts) (d + 1) := by
  intro pins σ H s u base A g E Q hs I ru hsz hg hcl hf hr hQ
  obtain rfl : u = .ref a := ru
  have hu : A.units < cLine := by have := hr.un; omega
  obtain ⟨its, rv, ⟨o, n, ho, hc, _, hd⟩, _⟩ := I.list (SqL.of (hs _ _ h0))
  by_cases hne : xs = []
  · subst hne
    cases hsv
    cases rv
    exact wpAny_pyReprUnder_ref (by omega) (wpAny_pyReprObjUnder_list_empty ⟨o, ho, hc⟩ hu ho hd ⟨_, _, rfl, hQ H _ (Same.refl _) (I.tok _)⟩)
  · refine wpAny_pyReprUnder_ref (by omega) (wpAny_pyReprObjUnder_twin (twin := "list.__repr__.under") ⟨o, ho, hc⟩ F.slot_list_repr.toG rfl hu ?_)
    exact call_twin_plain F.plain_list_repr_under F.entry_list_repr_under F.check_list_repr_under ⟨o, ho, hc⟩ F.slot_list_repr.toG (F.args_list_repr_1 _)
      (listO (R := callEnd _ _) hx h0 hsv hne hs I hg hcl hf hr hT hsz fun H' s' u s1 I1 => ⟨⟨_, _, rfl⟩, _, _, rfl, hQ H' s' s1 I1⟩)
theorem els_is {v : V} {t : Str} (h : ∀ u, RelV v u → ReprIs X.prog X.w u t) : Els X RS H0 k v t 0 := fun pins σ H s u base A g E Q hs I ru hsz _ _ _ _ hQ => h u ru base hsz A E s Q fun tk => hQ H _ (Same.refl _) (I.tok _)
theorem els_dct {a : Addr} (h : H0 a = some (.dK [])) : Els X RS H0 k (.ref a) (dictText []) 0 := by
  intro pins σ H s u base A g E Q hs I ru hsz hg hcl hf hr hQ
  obtain rfl : u = .ref a := ru
  obtain ⟨_, hsm, vs, hkv, o, es, ep, ho, hx, hd, _, hp, _⟩ := dk_of I.hok (hs _ _ h)
  have ev : vs = [] := by
    cases hkv
    rfl
  subst ev
  have ee : es.toList = [] := by
    generalize es.toList = l at hp
    cases hp
    rfl
  refine ReprK.dict (as := []) (d := 0) ho hx.1 hd hsm nofun (by rw [ee]; exact .nil) base hsz A g E s Q hg (fun b hb => ?_) (by have := hr.un; omega) (fun _ _ e => e) fun h' tk hk => hQ H _ (Same.refl _) (I.kept hk)
  rw [List.mem_singleton.mp hb]
  exact hcl a _ 0 (Nat.le_refl _) (.dct h)
mutual
theorem els_of (hx : ∀ a t xs, RS H0 (.ref a) t → H0 a ≠ some (.lst xs)) (hown : ∀ v t, RS H0 v t → Els X RS H0 k v t 0) : ∀ {v : V} {t : Str} {d : Nat}, Sv RS H0 v t d → Els X RS H0 k v t d
  | _, _, _, .non => els_is fun u r => by cases r; exact ReprIs.none
  | _, _, _, .bl b => els_is fun u r => by cases r; exact ReprIs.bool b
  | _, _, _, .int i h => els_is fun u r => by obtain ⟨t, rfl⟩ := r; exact ReprIs.int t h
  | _, _, _, .str x h => els_is fun u r => by obtain ⟨t, rfl⟩ := r; exact ReprIs.str x t h
  | _, _, _, .own h => hown _ _ h
  | _, _, _, .dct h => els_dct h
  | _, _, _, .lst h r => els_lst hx h r fun i v e => elsAll hx hown r i v e
theorem elsAll (hx : ∀ a t xs, RS H0 (.ref a) t → H0 a ≠ some (.lst xs)) (hown : ∀ v t, RS H0 v t → Els X RS H0 k v t 0) : ∀ {xs : List V} {ts : List Str} {d : Nat}, SvAll RS H0 xs ts d → ∀ (i : Nat) (v : V), xs[i]? = some v → ∃ t e, ts[i]? = some t ∧ e ≤ d ∧ Els X RS H0 k v t e
  | _, _, _, .nil, i, v, e => by simp at e
  | _, _, _, .cons (d := d1) h _, 0, v, e => by
    simp at e
    subst e
    exact ⟨_, d1, rfl, Nat.le_max_left _ _, els_of hx hown h⟩
  | _, _, _, .cons _ r, i + 1, v, e => by
    obtain ⟨t, e1, h1, h2, h3⟩ := elsAll hx hown r i v (by simpa using e)
    exact ⟨t, e1, by simpa using h1, Nat.le_trans h2 (Nat.le_max_right _ _), h3⟩
end
/-- an own object's text, told by its method -/
def OwnR (K : PySem.W.Frag) (C : Str) (sp : Sp) (js : List Nat) : Hp → V → Str → Prop := fun H v t => ∃ a dx fl, v = .ref a ∧ H a = some (.ins (He.ga K C) dx fl) ∧ ∀ H0, ExtN H H0 → sp (pick js ([.ref a] ++ [] ++ [])) H0 (fun y H' => y = .str t ∧ Same H0 H') (fun _ _ _ => False)
/-- repr(v) -/
def rReprS (RS : Hp → V → Str → Prop) : List V → Hp → VK → Prop := fun xs H Q => ∃ v t d, xs = [v] ∧ Sv RS H v t d ∧ d ≤ 5 ∧ (∃ a l, v = .ref a ∧ H a = some (.lst l)) ∧ t.length ≤ sizeLine ∧ ∀ H', Same H H' → Q (.str t) H'
/-- .. of data or of a list in which own objects stand -/
def rReprB (K : PySem.W.Frag) (RS : Hp → V → Str → Prop) : List V → Hp → VK → Prop := fun xs H Q => rReprX K xs H Q ∨ rReprS RS xs H Q
end
section
variable {K : PySem.W.Frag} {RS : Hp → V → Str → Prop} {H : Hp} {Q : VK}
end
/-! ### what is no Summary; late changes of any values (k53) -/
def NoSum (K : PySem.W.Frag) (H : Hp) (v : V) : Prop := (∃ d, Dx K H v d) ∨ (∃ l xs, v = .ref l ∧ H l = some (.lst xs)) ∨ ∃ l xs, v = .ref l ∧ H l = some (.tup xs)
theorem NoSum.ty {K : PySem.W.Frag} {H : Hp} {v : V} (h : NoSum K H v) : ∃ T, T ∈ ["NoneType", "bool", "int", "str", "list", "tuple", "dict"] ∧ TyX K H v (.type T) := by
  rcases h with ⟨d, h⟩ | ⟨l, xs, rfl, h⟩ | ⟨l, xs, rfl, h⟩
  · exact ⟨tyD d, by cases d <;> simp [tyD], ty_dx h⟩
  · exact ⟨"list", by simp, .base (.lst h)⟩
  · exact ⟨"tuple", by simp, .base (.tup h)⟩
theorem NoSum.x {K : PySem.W.Frag} {H H' : Hp} {v : V} (h : NoSum K H v) (s : ExtN H H') : NoSum K H' v := by
  rcases h with ⟨d, h⟩ | ⟨l, xs, rfl, h⟩ | ⟨l, xs, rfl, h⟩
  · exact .inl ⟨d, dx_x s h⟩
  · exact .inr (.inl ⟨l, xs, rfl, lst_x s h⟩)
  · exact .inr (.inr ⟨l, xs, rfl, s _ _ h nofun⟩)
theorem NoSum.id {K : PySem.W.Frag} {H : Hp} {v : V} (h : NoSum K H v) : flatB v = true ∨ ∃ r, v = .ref r := by
  rcases h with ⟨d, h⟩ | ⟨l, xs, rfl, h⟩ | ⟨l, xs, rfl, h⟩
  · cases h with
    | lst _ _ => exact .inr ⟨_, rfl⟩
    | tup _ _ => exact .inr ⟨_, rfl⟩
    | dct _ => exact .inr ⟨_, rfl⟩
    | _ => exact .inl rfl
  · exact .inr ⟨_, rfl⟩
  · exact .inr ⟨_, rfl⟩
theorem NoSum.same {K : PySem.W.Frag} {H H' : Hp} {v : V} (h : NoSum K H v) (s : Same H H') : NoSum K H' v := h.x (ExtN.of s)
def lenTD : PyData → Nat
  | .tuple ds => ds.length
  | _ => 0
def lateE (b : Bool) (d1 d2 d3 : PyData) (v v2 v3 : V) : Option (Str × Str × V) :=
  if b = false then some ("NotASummary", "value", v) else if orderD d1 = false then some ("InvalidOrder", "index", ordV d1)
  else if betD d2 0 (lenTD d1 : Int) = false then some ("InvalidIndex", "index", v2) else if nameD d3 = false then some ("InvalidName", "name", v3) else none
/-! ### lists of lists -/
section
variable {J : It} {n : Nat} {G : Hp → Prop} {Y : Nat → Hp → V → Hp → Prop} {g : TG} {te : TE} {vs : List Nat} {σ : L2.St} {H1 : Hp} {D : Addr} {Q : VK}
end
/-! ### rows of a word and a value -/
def smW (d : PyData) : Bool := okX d && (decide (rbX d ≤ 1000000) && (decide (d.depth ≤ 20) && !d.hasDict))
theorem smW_bag {ps : Bag} (h : BagS ps) (hl : ps.length ≤ 12) : smW (bagD ps) = true := by
  have hp : ∀ d ∈ ps.map pairD, okX d = true ∧ rbX d ≤ 2020 := fun d hd => by
    obtain ⟨p, hp, rfl⟩ := List.mem_map.mp hd
    obtain ⟨h1, h2, h3⟩ := h p hp
    have hn := isName_len h1
    constructor
    · show (okX (.str p.1) && (okX (.int p.2) && true)) = true
      rw [show okX (.int p.2) = true from decide_eq_true (log2_le _ h2 h3)]
      have : okX (.str p.1) = true := by
        show (p.1.cps.toList.all fun c => decide (c < 16 ^ 8)) = true
        rw [List.all_eq_true]
        intro c hc
        have h5 := List.all_eq_true.mp (isName_let h1) c hc
        simp only [isLet, Bool.and_eq_true, decide_eq_true_eq] at h5
        exact decide_eq_true (by omega)
      rw [this]; rfl
    · show (10 * p.1.length + 2 + 2 + (1921 + 2 + 0)) + 3 ≤ 2020
      omega
  have h1 : okX (bagD ps) = true := okXs_all fun d hd => (hp d hd).1
  have h2 : rbX (bagD ps) ≤ 1000000 := by
    show rbXs (ps.map pairD) + 3 ≤ _
    have := rbXs_le (m := 2020) fun d hd => (hp d hd).2
    rw [List.length_map] at this
    have : ps.length * 2022 ≤ 12 * 2022 := Nat.mul_le_mul_right _ hl
    omega
  have h3 : ∀ ps : Bag, PyData.depthAll (ps.map pairD) ≤ 1 ∧ PyData.hasDictAll (ps.map pairD) = false := fun ps => by
    induction ps with
    | nil => exact ⟨Nat.zero_le _, rfl⟩
    | cons p ps ih => exact ⟨by
        have : (pairD p).depth = 1 := rfl
        simp only [List.map_cons, PyData.depthAll, this]
        omega, by
        simp only [List.map_cons, PyData.hasDictAll, ih.2]
        rfl⟩
  obtain ⟨h3, h4⟩ := h3 ps
  simp only [smW, Bool.and_eq_true, decide_eq_true_eq, h1, h2]
  exact ⟨trivial, trivial, (by show PyData.depthAll (ps.map pairD) + 1 ≤ 20; omega), by show (!PyData.hasDictAll (ps.map pairD)) = true; rw [h4]; rfl⟩
/-- a value that is shown: data without dicts, or one in which objects stand -/
def ShK (K : PySem.W.Frag) (RS : Hp → V → Str → Prop) (H : Hp) (y : V) : Prop := (∃ d, Dx K H y d ∧ smW d = true) ∨ ∃ t d, Sv RS H y t d ∧ d ≤ 2 ∧ t.length ≤ 50000
/-- no list stands in it, or it is a list of one such value -/
def lst1 (d : PyData) : Bool := noL d || match d with
  | .list [e] => noL e
  | _ => false
structure GivL (b0 b1 b2 b3 : Bool) (n : Nat) (d1 d2 d3 : PyData) (ep : V) : Prop where
  h1 : b1 = true → orderD d1 = false ∧ ordV d1 = ep
  g1 : b1 = false → orderD d1 = true ∧ lenTD d1 = n
  h2 : b2 = true → betD d2 0 (n : Int) = false
  g2 : b2 = false → betD d2 0 (n : Int) = true
  h3 : b3 = true → nameD d3 = false
  g3 : b3 = false → nameD d3 = true
/-- what is due -/
def dueL (b0 b1 b2 b3 : Bool) (z0 ep z2 z3 : V) : List V :=
  if b0 = true then [.str "notsummary", z0] else if b1 = true then [.str "order", ep] else if b2 = true then [.str "index", z2] else if b3 = true then [.str "name", z3] else [.str "returned"]
section
variable {RS : Hp → V → Str → Prop} {H H' : Hp}
mutual
theorem sv_x (s : ExtN H H') (hR : ∀ v t, RS H v t → RS H' v t) : ∀ {v : V} {t : Str} {d : Nat}, Sv RS H v t d → Sv RS H' v t d
  | _, _, _, .non => .non
  | _, _, _, .bl b => .bl b
  | _, _, _, .int i h => .int i h
  | _, _, _, .str x h => .str x h
  | _, _, _, .own h => .own (hR _ _ h)
  | _, _, _, .dct h => .dct (s _ _ h nofun)
  | _, _, _, .lst h r => .lst (lst_x s h) (svs_x s hR r)
theorem svs_x (s : ExtN H H') (hR : ∀ v t, RS H v t → RS H' v t) : ∀ {xs : List V} {ts : List Str} {d : Nat}, SvAll RS H xs ts d → SvAll RS H' xs ts d
  | _, _, _, .nil => .nil
  | _, _, _, .cons h r => .cons (sv_x s hR h) (svs_x s hR r)
end
end
/-! ### data, or a Summary (k36, k42) -/
def sumMark : PyData := .dict [(.none, .none)]
def Ax (K : PySem.W.Frag) (H : Hp) (v : V) (d : PyData) : Prop := Dx K H v d ∨ (d = sumMark ∧ ∃ c ps, SumO K H v c ps)
/-! ### sizes of any values (k42) -/
def sizeOk (c : Int) (ps : Bag) : PyData → Bool
  | .int N => decide (sumC ps ≤ N) && decide ((N - sumC ps) % (c + 1) = 0)
  | _ => false
def sizeE (b : Bool) (c : Int) (ps : Bag) (d1 : PyData) (v v1 : V) : Option (Str × Str × V) :=
  if b = false then some ("NotASummary", "value", v) else if sizeOk c ps d1 = false then some ("InvalidSize", "size", v1) else none
/-- the error of one of six questions -/
def truE (j : Int) (b : Bool) (c : Int) (ps : Bag) (d1 dB dW dL dM : PyData) (v v1 vW vL vM : V) : Option (Str × Str × V) :=
  match sizeE b c ps d1 v v1 with
  | some e => some e
  | none =>
    if j = 0 then none
    else if j = 1 then (if verOk (badF 12) dB = false then some ("InvalidCounts", "index", verV (badF 12) dB) else none)
    else if nameD dW = false then some ("InvalidName", "name", vW)
    else if j = 3 ∧ nameD dL = false then some ("InvalidName", "name", vL)
    else if j = 5 ∧ fromD dM 1 = false then some ("InvalidNumber", "number", vM) else none
def TruH (K : PySem.W.Frag) (H : Hp) (v : V) (b : Bool) (c : Int) (ps : Bag) : Prop := (b = true → SumO K H v c ps ∧ SumV c ps) ∧ (b = false → NoSum K H v)
section
variable {b : Bool} {c : Int} {ps : Bag} {d1 dB dW dL dM : PyData} {v v1 vW vL vM : V} {j : Int}
end
/-- what is due: the word returned, or a word and a value -/
def ShDue (K : PySem.W.Frag) (RS : Hp → V → Str → Prop) (H : Hp) (due : List V) : Prop := due = [.str "returned"] ∨ ∃ wd y, due = [.str wd, y] ∧ (okX (.str wd) && decide (rbX (.str wd) ≤ 200)) = true ∧ ShK K RS H y
/-- what one of the six questions answers, and what is due -/
def DueT (j : Int) (b : Bool) (c : Int) (ps : Bag) (d1 dB dW dL dM : PyData) (v v1 vW vL vM : V) (due : List V) : Prop := (truE j b c ps d1 dB dW dL dM v v1 vW vL vM = none ∧ due = [.str "returned"]) ∨ ∃ C f wd y, truE j b c ps d1 dB dW dL dM v v1 vW vL vM = some (C, f, y) ∧ (C, f, wd) ∈ exTab ∧ due = [.str wd, y]
/-! ### != of lists that hold the same (k12) -/
def rNeS (K : PySem.W.Frag) : R2 := fun x y H Q => ∃ a b xs, x = .ref a ∧ y = .ref b ∧ SqL K H a xs ∧ SqL K H b xs ∧ (∀ v ∈ xs, flatB v = true ∨ ∃ r, v = .ref r) ∧ Q (.bl false) H
section
variable {X : Cx} {pins : List (Addr × Obj)} {σ : L2.St} {H : Hp} {s : Shared}
end
/-! ### a list of caught rows that grows -/
def Rows (H : Hp) (R : Addr) (wd : Str) (P : V → Prop) (n : Nat) (ls : List V) : Prop := H R = some (.lst ls) ∧ ls.length = n ∧ ∀ y ∈ ls, ∃ l z, y = .ref l ∧ l ≠ R ∧ H l = some (.lst [.str wd, z]) ∧ P z
/-! ### methods inside lambdas: the written part told -/
section
variable {X : Cx} {CX : CXT} {k n : Nat} {C m q : Str} {st : Stmt} {dvs : List V} {ps ks : List Str} {js : List Nat} {sp : Sp} {E : XK} {p pos apos : Pos} {e o : Expr} {es : List Expr} {kws : List Keyword} {ta : TE} {t tk : TA} {fs : List Str}
end
end TP

namespace TP
open PySem PySem.Spec PyProof.Rows L2
/-! ### targets: x.f among several, *rest -/
section
variable {prog : Program} {w : World} {A : Around} {E : Value → Shared → Prop} {s : Shared}
theorem walks_tup (hh : A.handled = none) (I ax : Addr) (hne : ax ≠ I) (items : Array Value) (k : Nat) (hk : k ≤ items.size) :
    WalksS prog w A I [I, ax] [I] (fun a b => b = a) (items.size - k) (fun j v => items[k + j]? = some v) (fun j s => s.heap.IsTupleIter I ax (k + j) ∧ s.heap.IsTuple ax items) where
  sub := fun b hb => by simp at hb; simp [hb]
  grefl := fun _ => rfl
  gtrans := fun a b c h1 h2 => h2.trans h1
  frame := fun i s h' tk st _ hk => ⟨st.1.at fun o e => hk I (by simp) o e, st.2.at fun o e => hk ax (by simp) o e⟩
  item := fun i s Q E hi st hQ => by
    refine wpAny_pyNext_tuple_item st.1 st.2 (x := items[k + i]'(by omega)) (by rw [Array.getElem?_eq_getElem (by omega)]) fun h' hit' hs' => ?_
    exact hQ _ _ (by rw [Array.getElem?_eq_getElem (by omega)]) ⟨hit', st.2.extBut hs'.extBut hne⟩ ⟨fun b o hb e => hs'.extBut b o (fun h => hb (by simp [h])) e, rfl, rfl, rfl, Nat.le_refl _⟩
  done := fun s Q E st hQ => by
    refine wpAny_pyNext_tuple_end hh st.1 st.2 (by simp; omega) fun h' he' => ?_
    exact hQ _ ⟨fun b o hb e => he' b o (fun h => hb (by simp [h])) e, rfl, rfl, rfl, Nat.le_refl _⟩
  self := fun i s Q E st hQ => wpAny_pyIter_tupleiter st.1 hQ
theorem items_drop {items acc : Array Value} {k : Nat} (hk : k ≤ items.size) (h : ItemsOf (fun j v => items[k + j]? = some v) acc (items.size - k)) : acc.toList = items.toList.drop k := by
  obtain ⟨h1, h2⟩ := h
  refine List.ext_getElem? fun j => ?_
  rw [List.getElem?_drop, Array.getElem?_toList, Array.getElem?_toList]
  by_cases hj : j < acc.size
  · rw [Array.getElem?_eq_getElem hj]
    exact (h2 j _ (Array.getElem?_eq_getElem hj)).symm
  · rw [Array.getElem?_eq_none (by omega), Array.getElem?_eq_none (by omega)]
theorem unpackItems_star {t : Addr} {items : Array Value} {n i : Nat} {Q : List Value → Shared → Prop} (hh : A.handled = none) (ht : IsTup s.heap t items) (hin : i < n) (hni : n ≤ items.size + 1) (hsz : items.size ≤ sizeLine)
    (hQ : ∀ s', Moved [] (fun a b => b = a) s s' → Q (items.toList.take i ++ [.ref s'.heap.objs.size] ++ items.toList.drop (items.size - (n - 1 - i))) { s' with heap := s'.heap.push { cls := .type "list", data := .seq ((items.toList.drop i).take (items.size + 1 - n)).toArray } }) :
    wpAny (model prog w) A (unpackItems (.ref t) n (some i)) Q E s := by
  have hlt : t ≠ s.heap.objs.size := by obtain ⟨o, ho, _⟩ := ht; exact Nat.ne_of_lt (Heap.lt_size ho)
  unfold unpackItems
  refine wpAny_bind ?_
  · unfold notIterableAtAll
    refine wpAny_bind (wpAny_specialOf ht.typeIs slot_tuple_iter.lookup ?_)
    refine wpAny_pure ?_
    simp only [Bool.false_eq_true, if_false]
    refine wpAny_bind (wpAny_holding (iter_tuple ht ?_))
    refine wpAny_bind (wpAny_holding (draw_tuple hlt i 0 _ _ ⟨_, Heap.get?_push_size _ rfl, rfl, rfl⟩ (ht.push _) (by omega) fun h₁ hit₁ hs₁ => ?_))
    rw [List.drop_zero]
    have hl : (items.toList.take i).length = i := by rw [List.length_take, Array.length_toList]; omega
    rw [if_neg (by rw [hl]; omega)]
    have ht₁ : IsTup h₁ t items := (ht.push _).extBut hs₁.extBut hlt
    have hlt1 : ∀ b ∈ [s.heap.objs.size, t], b < h₁.objs.size := fun b hb => by
      rcases List.mem_cons.mp hb with rfl | hb
      · obtain ⟨o, ho, _⟩ := hit₁; exact Heap.lt_size ho
      · cases List.mem_singleton.mp hb; exact ht₁.lt
    refine wpAny_bind (wpAny_holding (wpAny_collect_iter (T := "tuple_iterator") (.inr (.inr (.inr rfl))) (walks_tup (A := A.in1) hh s.heap.objs.size t hlt items i (by omega)) (fun j s' st => IsTupIter.typeIs st.1) ?_ hlt1 (by simp) ?_ (by omega)))
    · exact ⟨by rw [Nat.zero_add] at hit₁; exact hit₁, ht₁⟩
    intro s' acc hm ha
    have ea := items_drop (by omega) ha
    have hla : acc.toList.length = items.size - i := by rw [ea, List.length_drop, Array.length_toList]
    rw [if_neg (by rw [hla]; omega)]
    have hmv : Moved [] (fun a b => b = a) s s' := ⟨fun b o _ e => by
      refine hm.heap b o (fun hb => ?_) (hs₁.extBut b o (fun z => ?_) (Heap.get?_push_of_some _ e))
      · cases List.mem_singleton.mp hb
        exact Nat.lt_irrefl _ (Heap.lt_size e)
      · subst z
        exact Nat.lt_irrefl _ (Heap.lt_size e), hm.gens, hm.drawn, hm.os, hm.toks⟩
    refine wpAny_bind (wpAny_newList ?_)
    refine wpAny_pure ?_
    have e1 : acc.toList.length - (n - 1 - i) = items.size + 1 - n := by rw [hla]; omega
    have := hQ s' hmv
    rw [e1, ea, List.drop_drop]
    rw [show items.size - (n - 1 - i) = i + (items.size + 1 - n) by omega] at this
    exact this
theorem unpack_star {t : Addr} {items : Array Value} {i : Nat} {targets : List (Bool × (Value → Sem Unit))} {Q : Unit → Shared → Prop} (hh : A.handled = none) (ht : IsTup s.heap t items)
    (hstar : targets.findIdx? (·.1) = some i) (hin : i < targets.length) (hni : targets.length ≤ items.size + 1) (hsz : items.size ≤ sizeLine)
    (h : ∀ s', Moved [] (fun a b => b = a) s s' → wpAny (model prog w) A (assignInOrder (targets.map (·.2)) (items.toList.take i ++ [.ref s'.heap.objs.size] ++ items.toList.drop (items.size - (targets.length - 1 - i)))) Q E { s' with heap := s'.heap.push { cls := .type "list", data := .seq ((items.toList.drop i).take (items.size + 1 - targets.length)).toArray } }) :
    wpAny (model prog w) A (unpack (.ref t) targets) Q E s := by
  unfold unpack
  rw [hstar]
  exact wpAny_bind (wpAny_holding (unpackItems_star hh ht hin hni hsz h))
end
def gStar (K : PySem.W.Frag) (n i : Nat) (t : TGs) : TG := fun v σ H Q => ∃ a xs, v = .ref a ∧ SqT K H a xs ∧ n ≤ xs.length + 1 ∧ xs.length ≤ 100000 ∧ ∀ p, H p = none → t (xs.take i ++ [.ref p] ++ xs.drop (xs.length - (n - 1 - i))) σ (upd H p (.lst ((xs.drop i).take (xs.length + 1 - n)))) Q
section
variable {X : Cx} {pos : Pos}
theorem pgs_star {e : Expr} {p : Pos} {es : List Expr} {t : TG} {u : TGs} (h1 : PG X e t) (h2 : PGs X es u)
    (hs : (assignEach (.Starred e p :: es) X.env).map (·.2) = assign e X.env :: (assignEach es X.env).map (·.2) := by rfl) : PGs X (.Starred e p :: es) (gCons t u) := by
  refine ⟨fun pins s σ H vs us Q I r h => ?_⟩
  obtain ⟨v, vr, e1, h⟩ := h
  subst e1
  cases r with
  | cons r rr =>
    rw [hs]
    refine assignInOrder_cons (thn (h1.run pins s σ H _ _ _ I r h) fun _ s1 ⟨σ1, H1, I1, q1⟩ => ?_)
    exact h2.run pins s1 σ1 H1 _ _ Q I1 rr q1
theorem vals_take : ∀ {vs : List V} {us : List Value} (n : Nat), Vals vs us → Vals (vs.take n) (us.take n)
  | _, _, 0, _ => .nil
  | [], [], n + 1, .nil => .nil
  | _ :: _, _ :: _, n + 1, .cons a b => .cons a (vals_take n b)
theorem vals_drop : ∀ {vs : List V} {us : List Value} (n : Nat), Vals vs us → Vals (vs.drop n) (us.drop n)
  | _, _, 0, h => h
  | [], [], n + 1, .nil => .nil
  | _ :: _, _ :: _, n + 1, .cons a b => vals_drop n b
theorem pg_star {es : List Expr} {k : Nat} {t : TGs} {n i : Nat} (hc : X.calm = true) (h : PGs X es t)
    (hn : (assignEach es X.env).length = n := by rfl) (hst : (assignEach es X.env).findIdx? (·.1) = some i := by rfl) (hin : i < n := by decide) : PG X (.Tuple es k pos) (gStar X.K n i t) := by
  refine ⟨fun pins s σ H v u Q I r hw => ?_⟩
  obtain ⟨a, xs, e1, hq, hl, hz0, hw⟩ := hw
  subst e1
  cases r
  obtain ⟨its, rv, ht, hz⟩ := I.tuple hq
  have hlen : its.toArray.size = xs.length := by have := rv.length; simpa using this.symm
  rw [assign_Tuple]
  refine wpAny_bind (wpAny_standAt (unpack_star (I.ok.hd hc) ht hst (by rw [hn]; exact hin) (by rw [hn, hlen]; exact hl) (by rw [hlen]; exact sz_le hz0) fun s' hm => ?_))
  rw [hn]
  have es := Moved.eq_with hm
  rw [es]
  have I1 : Inv X pins σ H { s with heap := s'.heap, toks := s'.toks } := I.kept (t' := s'.toks) fun b o e => hm.heap b o (by simp) e
  have hf : H s'.heap.objs.size = none := I1.hok.fresh (Nat.le_refl _)
  have hw := hw s'.heap.objs.size hf
  refine h.run pins _ σ (upd H s'.heap.objs.size (.lst ((xs.drop i).take (xs.length + 1 - n)))) _ _ Q (I1.laid (t' := s'.toks) (fun b u e => Heap.get?_push_of_some _ e) (Nat.le_refl _) ?_) ?_ hw
  · refine ⟨by rw [List.length_take, List.length_drop]; exact Nat.le_trans (Nat.le_trans (Nat.min_le_right _ _) (Nat.sub_le _ _)) (sz_le hz0), _, 0, ?_, Heap.get?_push_size _ rfl⟩
    rw [hlen]
    exact vals_take _ (vals_drop _ rv)
  · rw [hlen]
    exact vals_app (vals_app (vals_take _ rv) (.cons rfl .nil)) (vals_drop _ rv)
end
end TP

namespace TP
open PySem PySem.Spec PyProof.Rows L2
/-! ### x.f as one of several targets -/
def gFld (K : PySem.W.Frag) (to : TE) (f : Str) : TG := fun v σ H Q => to σ H fun x H2 => SetC K f x v H2 fun H' => Q σ H'
theorem pg_fld {X : Cx} {o : Expr} {f : Str} {pos : Pos} {ta : TE} (ha : PE X o ta) : PG X (.Attribute o f pos) (gFld X.K ta f) := by
  refine ⟨fun pins s σ H v u Q I r h => ?_⟩
  refine PySem.W.kas_attr (thn (ha.run pins s σ H _ I h) fun ov s2 ⟨x, H2, I2, rx, a, C, dx, fs, ex, ea, c, n, l, q2⟩ => ?_)
  subst ex
  obtain rfl : ov = Value.ref a := rx
  exact setattr_ok I2 ea c n l r fun s3 I3 => ⟨σ, _, I3, q2⟩
theorem k_gfld {X : Cx} {o : Expr} {f : Str} {pos : Pos} {ta : TE} (K : PySem.W.Frag) (ha : PE X o ta) (hK : X.K = K := by rfl) : PG X (.Attribute o f pos) (gFld K ta f) := by subst hK; exact pg_fld ha
theorem k_gstar {X : Cx} {pos : Pos} {es : List Expr} {k : Nat} {t : TGs} {n i : Nat} (K : PySem.W.Frag) (hc : X.calm = true) (h : PGs X es t)
    (hn : (assignEach es X.env).length = n := by rfl) (hst : (assignEach es X.env).findIdx? (·.1) = some i := by rfl) (hin : i < n := by decide) (hK : X.K = K := by rfl) : PG X (.Tuple es k pos) (gStar K n i t) := by subst hK; exact pg_star hc h hn hst hin
theorem w_gstar {K : PySem.W.Frag} {n i : Nat} {t : TGs} {σ : L2.St} {H : Hp} {Q : L2.St → Hp → Prop} {a : Addr} {xs : List V} (h : SqT K H a xs) (hl : n ≤ xs.length + 1) (hz : xs.length ≤ 100000)
    (q : ∀ p, H p = none → t (xs.take i ++ [.ref p] ++ xs.drop (xs.length - (n - 1 - i))) σ (upd H p (.lst ((xs.drop i).take (xs.length + 1 - n)))) Q) : gStar K n i t (.ref a) σ H Q := ⟨a, xs, rfl, h, hl, hz, q⟩
theorem w_gfld {K : PySem.W.Frag} {to : TE} {f : Str} {v : V} {σ : L2.St} {H : Hp} {Q : L2.St → Hp → Prop} (h : to σ H fun x H2 => SetC K f x v H2 fun H' => Q σ H') : gFld K to f v σ H Q := h
/-! ### a dict of the module -/
theorem dicW_es {K : PySem.W.Frag} {P : Params} {a : Addr} {ks : List Str} (h : He.dicW K a = some (He.keysIn P ks)) : ∃ es n, K.lookup a = some ⟨.type "dict", none, .dict es n, #[]⟩ ∧ es.toList.map He.keyOf = He.keysIn P ks ∧ (a == sysModules) = false := by
  unfold He.dicW at h
  cases q : K.lookup a with
  | none => rw [q] at h; cases h
  | some o =>
    obtain ⟨oc, od, dt, osl⟩ := o
    rw [q] at h
    cases oc with
    | type c =>
      cases od with
      | none =>
        cases dt with
        | dict es n =>
          have h1 : (match decide (c = "dict") && (osl.isEmpty && !(a == sysModules)) with
            | true => some (es.toList.map He.keyOf)
            | false => none) = some (He.keysIn P ks) := h
          cases z : decide (c = "dict") && (osl.isEmpty && !(a == sysModules)) with
          | false => rw [z] at h1; cases h1
          | true =>
            rw [z] at h1
            obtain ⟨z1, z2⟩ := He.ba z
            obtain ⟨z3, z4⟩ := He.ba z2
            have e1 : c = "dict" := of_decide_eq_true z1
            have e2 : osl = #[] := Array.isEmpty_iff.mp z3
            have e3 : (a == sysModules) = false := by
              cases y : a == sysModules with
              | false => rfl
              | true => rw [y] at z4; cases z4
            subst e1 e2
            exact ⟨es, n, rfl, Option.some.inj h1, e3⟩
        | _ => cases h
      | some b => cases dt <;> cases h
    | _ => cases od <;> cases dt <;> cases h
theorem keyOf_inv {e : DictEntry} {x : Str} {i : Int} (h : He.keyOf e = some (x, i)) : e.refKey = false ∧ ∀ z, e.key.isStr z = true → x = z := by
  unfold He.keyOf at h
  split at h
  · rename_i y t q
    obtain ⟨h1, h2⟩ := Prod.mk.inj (Option.some.inj h)
    subst h1
    refine ⟨by unfold DictEntry.refKey; rw [q], fun z hz => ?_⟩
    rw [q] at hz
    exact eq_of_beq (show (y == z) = true from hz)
  · cases h
structure GDct (K : PySem.W.Frag) (w : World) (mg : Str → Option Value) (x : Str) (kvs : List (Str × He.Dv)) : Prop where
  glo : mg x = some (.ref (He.ga K x))
  dic : He.dicW K (He.ga K x) = some (He.keysIn w.params (kvs.map (·.1)))
  vals : He.valsB K (He.ga K x) kvs = true
theorem dct_no {K : PySem.W.Frag} {P : Params} {a : Addr} {ks : List Str} (h : He.dicW K a = some (He.keysIn P ks)) {z : Str} (hz : z ∉ ks) : PySem.W.nsIn K a z = some none := by
  obtain ⟨es, n, hl, he, _⟩ := dicW_es h
  have hk : ∀ e ∈ es.toList, e.refKey = false ∧ e.key.isStr z = false := fun e hm => by
    have h1 : He.keyOf e ∈ He.keysIn P ks := by rw [← he]; exact List.mem_map.mpr ⟨e, hm, rfl⟩
    obtain ⟨k, hk, e1⟩ := List.mem_map.mp h1
    obtain ⟨h2, h3⟩ := keyOf_inv e1.symm
    refine ⟨h2, ?_⟩
    cases q : e.key.isStr z with
    | false => rfl
    | true => exact absurd (h3 z q ▸ hk) hz
  unfold PySem.W.nsIn
  rw [hl]
  have h1 : es.toList.find? (·.key.isStr z) = none := List.find?_eq_none.mpr fun e hm => by rw [(hk e hm).2]; decide
  have h2 : es.toList.any (·.refKey) = false := List.any_eq_false.mpr fun e hm => by rw [(hk e hm).1]; decide
  show (match es.toList.find? (·.key.isStr z) with
    | some e => some (some e.val)
    | none => if es.toList.any (·.refKey) then none else some none) = some none
  rw [h1, h2]; rfl
def rInG (K : PySem.W.Frag) (x : Str) (kvs : List (Str × He.Dv)) : R2 := fun v y H Q => ∃ z, v = .str z ∧ y = .ref (He.ga K x) ∧ Q (.bl (kvs.any fun q => decide (q.1 = z))) H
def rIxG (K : PySem.W.Frag) (x : Str) (kvs : List (Str × He.Dv)) : R2 := fun v y H Q => ∃ z d, v = .ref (He.ga K x) ∧ y = .str z ∧ (z, d) ∈ kvs ∧ Q (d.v K) H
section
variable {X : Cx} {mg : Str → Option Value} {x : Str} {kvs : List (Str × He.Dv)}
theorem op_inG (G : GDct X.K X.w mg x kvs) : OpR X (compareOp .In) (rInG X.K x kvs) := by
  intro pins s σ H v y u c Q I rx ry h
  obtain ⟨z, rfl, rfl, q⟩ := h
  obtain ⟨t, rfl⟩ := (show ∃ t, u = Value.str z t from rx)
  obtain rfl : c = Value.ref (He.ga X.K x) := ry
  obtain ⟨es, n, hl, he, lo⟩ := dicW_es G.dic
  have hk := He.keysLit_of he
  have key : ∃ r, PySem.W.nsIn X.K (He.ga X.K x) z = some r ∧ r.isSome = kvs.any fun q => decide (q.1 = z) := by
    by_cases hz : z ∈ kvs.map (·.1)
    · obtain ⟨q, hq, e⟩ := List.mem_map.mp hz
      obtain ⟨u, h1, _⟩ := He.valsB_ok G.vals hq
      rw [e] at h1
      exact ⟨some u, h1, (List.any_eq_true.mpr ⟨q, hq, decide_eq_true e⟩).symm⟩
    · refine ⟨none, dct_no G.dic hz, ?_⟩
      have : (kvs.any fun q => decide (q.1 = z)) = false := List.any_eq_false.mpr fun q hq e => hz (List.mem_map.mpr ⟨q, hq, of_decide_eq_true e⟩)
      rw [this]; rfl
  obtain ⟨r, hr, hrs⟩ := key
  have hm := PySem.W.mapOf_K (prog := X.prog) (w := X.w) I.kIn hl hk
  refine wpAny_in_of (strKind_is X.prog X.w z t) lo hm ?_
  rw [PySem.W.find_K hl hr, hrs]
  exact ⟨.bl _, H, I.tok _, rfl, q⟩
theorem ix_G (G : GDct X.K X.w mg x kvs) : IxR X (rIxG X.K x kvs) := by
  intro value slice pins s σ H v y u c Q I rx ry h hs
  obtain ⟨z, d, rfl, rfl, hd, q⟩ := h
  obtain ⟨es, n, hl, he, lo⟩ := dicW_es G.dic
  obtain ⟨r, h1, h2⟩ := He.valsB_ok G.vals hd
  exact ix_kdict value slice pins s σ H _ _ u c Q I rx ry ⟨_, z, _, rfl, rfl, ⟨es, n, r, hl, He.keysLit_of he, h1, h2⟩, q⟩ hs
end
section
variable {X : Cx} {mg : Str → Option Value} {x : Str} {kvs : List (Str × He.Dv)}
theorem k_inG (K : PySem.W.Frag) (G : GDct K X.w mg x kvs) (hK : X.K = K := by rfl) : OpR X (compareOp .In) (rInG K x kvs) := by subst hK; exact op_inG G
theorem k_ixG (K : PySem.W.Frag) (G : GDct K X.w mg x kvs) (hK : X.K = K := by rfl) : IxR X (rIxG K x kvs) := by subst hK; exact ix_G G
end
theorem w_inG {K : PySem.W.Frag} {x z : Str} {kvs : List (Str × He.Dv)} {H : Hp} {Q : VK} (q : Q (.bl (kvs.any fun q => decide (q.1 = z))) H) : rInG K x kvs (.str z) (.ref (He.ga K x)) H Q := ⟨z, rfl, rfl, q⟩
theorem w_ixG {K : PySem.W.Frag} {x z : Str} {d : He.Dv} {kvs : List (Str × He.Dv)} {H : Hp} {Q : VK} (h : (z, d) ∈ kvs) (q : Q (d.v K) H) : rIxG K x kvs (.ref (He.ga K x)) (.str z) H Q := ⟨z, d, rfl, rfl, h, q⟩
end TP

namespace TP
open PySem PySem.Spec PyProof.Rows L2
/-! ### values in which own objects stand (tuples, too), and what they show -/
mutual
/-- v is shown as t; lists stand so deep in it -/
inductive Sw (K : PySem.W.Frag) (RS : Hp → V → Str → Prop) (H : Hp) : V → Str → Nat → Prop
  | non : Sw K RS H .non "None" 0
  | bl (b : Bool) : Sw K RS H (.bl b) (if b = true then "True" else "False") 0
  | int (i : Int) : i.natAbs.log2 < 1920 → Sw K RS H (.int i) (toString i) 0
  | str (x : Str) : (reprText x).length ≤ sizeLine → Sw K RS H (.str x) (reprText x) 0
  | own {v : V} {t : Str} : RS H v t → Sw K RS H v t 0
  | dct {a : Addr} : H a = some (.dK []) → Sw K RS H (.ref a) (dictText []) 0
  | lst {a : Addr} {xs : List V} {ts : List Str} {d : Nat} : H a = some (.lst xs) → SwAll K RS H xs ts d → Sw K RS H (.ref a) (listText ts) (d + 1)
  | tup {a : Addr} {xs : List V} {ts : List Str} {d : Nat} : SqT K H a xs → SwAll K RS H xs ts d → Sw K RS H (.ref a) (tupleText ts) (d + 1)
inductive SwAll (K : PySem.W.Frag) (RS : Hp → V → Str → Prop) (H : Hp) : List V → List Str → Nat → Prop
  | nil : SwAll K RS H [] [] 0
  | cons {v : V} {t : Str} {xs : List V} {ts : List Str} {d e : Nat} : Sw K RS H v t d → SwAll K RS H xs ts e → SwAll K RS H (v :: xs) (t :: ts) (max d e)
end
def NSeq (RS : Hp → V → Str → Prop) (H : Hp) : Prop := ∀ a t, RS H (.ref a) t → ∃ C dx fl, H a = some (.ins C dx fl)
/-- what stands at a tuple's place is that tuple -/
def Uq (K : PySem.W.Frag) (H : Hp) : Prop := ∀ a xs, SqT K H a xs → (∀ ys, SqT K H a ys → xs = ys) ∧ (∀ ys, H a ≠ some (.lst ys)) ∧ H a ≠ some (.dK []) ∧ ∀ C dx fl, H a ≠ some (.ins C dx fl)
theorem Uq.back {K : PySem.W.Frag} {H0 H : Hp} (s : Same H0 H) (h : Uq K H) : Uq K H0 := fun a xs e => by
  obtain ⟨h1, h2, h3, h4⟩ := h a xs (sqt_same s e)
  exact ⟨fun ys e' => h1 ys (sqt_same s e'), fun ys e' => h2 ys (s _ _ e'), fun e' => h3 (s _ _ e'), fun C dx fl e' => h4 C dx fl (s _ _ e')⟩
theorem vals_uq : ∀ {xs ys : List V} {us : List Value}, Vals xs us → Vals ys us → xs = ys
  | _, _, _, .nil, .nil => rfl
  | _, _, _, .cons a r, .cons b q => by rw [RelV.inj a b, vals_uq r q]
theorem uq_of {X : Cx} {pins : List (Addr × Obj)} {σ : L2.St} {H : Hp} {s : Shared} (I : Inv X pins σ H s) : Uq X.K H := fun a xs e => by
  obtain ⟨its, rv, ⟨o, ho, hc, n, hd⟩, _⟩ := I.tuple e
  refine ⟨fun ys e' => ?_, fun ys e' => ?_, fun e' => ?_, fun C dx fl e' => ?_⟩
  · obtain ⟨its', rv', ⟨o', ho', hc', n', hd'⟩, _⟩ := I.tuple e'
    rw [ho] at ho'
    cases ho'
    rw [hd] at hd'
    have ei : its.toArray = its'.toArray := by injection hd'
    have ei2 : its = its' := by simpa using ei
    subst ei2
    exact vals_uq rv rv'
  · obtain ⟨its', rv', ⟨o', n', ho', hc', _, hd'⟩, _⟩ := I.list (SqL.of e')
    rw [ho] at ho'
    cases ho'
    rw [hc] at hc'
    exact absurd (Value.type.inj hc') (by decide)
  · obtain ⟨_, _, vs, _, o', es, ep, ho', hx, _, _, _, _⟩ := dk_of I.hok e'
    rw [ho] at ho'
    cases ho'
    have hc' := hx.1
    rw [hc] at hc'
    exact absurd (Value.type.inj hc') (by decide)
  · obtain ⟨mA, J, _⟩ := ins_get I.hok e'
    have hj := J.obj
    rw [ho] at hj
    have hc' := congrArg Obj.cls (Option.some.inj hj)
    rw [hc] at hc'
    cases hc'
section
variable {K : PySem.W.Frag} {RS : Hp → V → Str → Prop} {H H' : Hp}
mutual
theorem sw_same (s : Same H H') (hR : ∀ v t, RS H v t → RS H' v t) : ∀ {v : V} {t : Str} {d : Nat}, Sw K RS H v t d → Sw K RS H' v t d
  | _, _, _, .non => .non
  | _, _, _, .bl b => .bl b
  | _, _, _, .int i h => .int i h
  | _, _, _, .str x h => .str x h
  | _, _, _, .own h => .own (hR _ _ h)
  | _, _, _, .dct h => .dct (s _ _ h)
  | _, _, _, .lst h r => .lst (s _ _ h) (sws_same s hR r)
  | _, _, _, .tup h r => .tup (sqt_same s h) (sws_same s hR r)
theorem sws_same (s : Same H H') (hR : ∀ v t, RS H v t → RS H' v t) : ∀ {xs : List V} {ts : List Str} {d : Nat}, SwAll K RS H xs ts d → SwAll K RS H' xs ts d
  | _, _, _, .nil => .nil
  | _, _, _, .cons h r => .cons (sw_same s hR h) (sws_same s hR r)
end
theorem sws_len : ∀ {xs : List V} {ts : List Str} {d : Nat}, SwAll K RS H xs ts d → ts.length = xs.length
  | _, _, _, .nil => rfl
  | _, _, _, .cons _ r => by simp [sws_len r]
variable (hx : NSeq RS H) (hu : Uq K H)
include hx hu
mutual
/-- the depth is told by the value -/
theorem sw_deep : ∀ {v : V} {t t' : Str} {d d' : Nat}, Sw K RS H v t d → Sw K RS H v t' d' → d = d'
  | _, _, _, _, _, .non, h => by cases h <;> rfl
  | _, _, _, _, _, .bl b, h => by cases h <;> rfl
  | _, _, _, _, _, .int i _, h => by cases h <;> rfl
  | _, _, _, _, _, .str x _, h => by cases h <;> rfl
  | _, _, _, _, _, .own h1, h => by
    cases h with
    | lst h2 _ =>
      obtain ⟨C, dx, fl, e⟩ := hx _ _ h1
      rw [e] at h2; cases h2
    | tup h2 _ =>
      obtain ⟨C, dx, fl, e⟩ := hx _ _ h1
      exact absurd e ((hu _ _ h2).2.2.2 _ _ _)
    | _ => rfl
  | _, _, _, _, _, .dct h1, h => by
    cases h with
    | lst h2 _ => rw [h1] at h2; cases h2
    | tup h2 _ => exact absurd h1 (hu _ _ h2).2.2.1
    | _ => rfl
  | _, _, _, _, _, .lst h1 r1, h => by
    cases h with
    | own h2 =>
      obtain ⟨C, dx, fl, e⟩ := hx _ _ h2
      rw [e] at h1; cases h1
    | dct h2 => rw [h1] at h2; cases h2
    | tup h2 _ => exact absurd h1 ((hu _ _ h2).2.1 _)
    | lst h2 r2 =>
      rw [h1] at h2
      cases h2
      exact congrArg (· + 1) (sws_deep r1 r2)
  | _, _, _, _, _, .tup h1 r1, h => by
    cases h with
    | own h2 =>
      obtain ⟨C, dx, fl, e⟩ := hx _ _ h2
      exact absurd e ((hu _ _ h1).2.2.2 _ _ _)
    | dct h2 => exact absurd h2 (hu _ _ h1).2.2.1
    | lst h2 _ => exact absurd h2 ((hu _ _ h1).2.1 _)
    | tup h2 r2 =>
      cases (hu _ _ h1).1 _ h2
      exact congrArg (· + 1) (sws_deep r1 r2)
theorem sws_deep : ∀ {xs : List V} {ts ts' : List Str} {d d' : Nat}, SwAll K RS H xs ts d → SwAll K RS H xs ts' d' → d = d'
  | _, _, _, _, _, .nil, h => by cases h; rfl
  | _, _, _, _, _, .cons h1 r1, h => by
    cases h with
    | cons h2 r2 => rw [sw_deep h1 h2, sws_deep r1 r2]
end
end
end TP
namespace TP
open PySem PySem.Spec PyProof.Rows L2 LamX
open Builtin Builtin.List
/-- of the lists of depth at most d none is under way -/
def ClrW (K : PySem.W.Frag) (RS : Hp → V → Str → Prop) (H0 : Hp) (g : List Code) (d : Nat) : Prop := ∀ a t e, e ≤ d → Sw K RS H0 (.ref a) t e → Clear g a
/-- inside another repr, v gives the text t -/
def Elw (X : Cx) (RS : Hp → V → Str → Prop) (H0 : Hp) (k : Nat) (v : V) (t : Str) (d : Nat) : Prop := ∀ (pins : List (Addr × Obj)) (σ : L2.St) (H : Hp) (s : Shared) (u : Value) (base : Nat) (A : Around) (g : List Code) (E : Value → Shared → Prop) (Q : Str → Shared → Prop),
  Same H0 H → Inv X pins σ H s → RelV v u → base + t.length ≤ sizeLine → A.guards = some g → ClrW X.K RS H0 g d → A.frames = X.A.frames → Room (k + d) A → (∀ H' s', Same H H' → Inv X pins σ H' s' → Q t s') → wpAny (model X.prog X.w) A (pyReprUnder base u) Q E s
theorem ClrW.le {K : PySem.W.Frag} {RS : Hp → V → Str → Prop} {H0 : Hp} {g : List Code} {d e : Nat} (h : ClrW K RS H0 g d) (he : e ≤ d) : ClrW K RS H0 g e := fun a t e' h1 h2 => h a t e' (Nat.le_trans h1 he) h2
section
variable {X : Cx} {RS : Hp → V → Str → Prop} {H0 : Hp} {k : Nat}
theorem loopW {A : Around} {g : List Code} {a P : Addr} {xs : List V} {ts : List Str} {d base : Nat} {pins : List (Addr × Obj)} {σ : L2.St} {R : Result → Shared → Prop} {Hs : Hp} (h0 : H0 a = some (.lst xs)) (hs0 : Same H0 Hs) (hne : a ≠ P) (hg : A.guards = some g) (hcl : ∀ rest kw, ClrW X.K RS H0 (.builtin "list.__repr__.loop" ⟨.ref a :: rest, kw⟩ :: g) d)
    (hf : A.frames = X.A.frames) (hr : Room (k + d + 1) A) (hlen : ts.length = xs.length) (hT : ∀ (i : Nat) (v : V), xs[i]? = some v → ∃ t e, ts[i]? = some t ∧ e ≤ d ∧ Elw X RS H0 k v t e) (hsz : base + (listText ts).length ≤ sizeLine)
    (hR : ∀ H' s' u, Same Hs H' → Inv X pins σ H' s' → R (.ok (.ret (.str (listText ts) u))) s') :
    ∀ (m i : Nat) (H : Hp) (s : Shared) (acc : Array Value) (c : Nat) (done : List (Str × Tok)), xs.length - i = m → i ≤ xs.length → Same Hs H → Inv X pins σ H s → FpOk X pins H P →
      s.heap.get? P = some { cls := .type "list", dict := none, data := .seq acc c, slots := #[] } → acc.toList = strValues done → done.map (·.1) = ts.take i →
      codeAny (model X.prog X.w) A (.builtin "list.__repr__.loop" ⟨[.ref a, rawInt i, .ref P, rawInt ((base + piled (ts.take i) : Nat) : Int)], []⟩) R s := by
  have hX : (listText ts).length = (textFrom 0 "[" ts).length + 1 := by
    show (textFrom 0 "[" ts ++ "]").length = _
    rw [strLen_append]
    rfl
  have hL := textFrom_len ts 0 "["
  have z1 : ts.length ≤ sizeLine := by
    have q := hL.1
    rw [if_neg (Nat.lt_irrefl 0)] at q
    omega
  have z3 := piled_le_listText ts
  intro m
  induction m with
  | zero =>
    intro i H s acc c done hm hi hs I hP hPo hacc hdone
    obtain ⟨its, rv, ⟨o, n, ho, _, _, hd⟩, _⟩ := I.list (SqL.of (hs _ _ (hs0 _ _ h0)))
    have el := rv.length
    refine codeAny_builtin F.entry_list_repr_loop ?_
    show wpAny _ _ («list.__repr__.loop» ⟨[.ref a, .int i 0, .ref P, .int ((base + piled (ts.take i) : Nat) : Int) 0], []⟩) _ _ s
    rw [repr_loop_tree]
    refine wpAny_bind (wpAny_listItems ho hd ?_)
    have e0 : its.toArray[(i : Int).toNat]? = none := by
      rw [Int.toNat_natCast, List.getElem?_toArray]
      exact List.getElem?_eq_none (by omega)
    simp only [e0]
    unfold reprEnd
    refine wpAny_bind (wpAny_listItems hPo rfl ?_)
    rw [hacc, repr_fold]
    refine wpAny_bind (wpAny_pure ?_)
    rw [show done.map (·.1) = ts by rw [hdone]; exact List.take_of_length_le (by omega)]
    refine wpAny_bind (wpAny_mkStr (wpAny_pure ?_) (show (listText ts).length ≤ sizeLine by omega))
    exact hR H _ _ hs (I.tok _)
  | succ m ih =>
    intro i H s acc c done hm hi hs I hP hPo hacc hdone
    have hlt : i < xs.length := by omega
    obtain ⟨its, rv, ⟨o, n, ho, _, _, hd⟩, _⟩ := I.list (SqL.of (hs _ _ (hs0 _ _ h0)))
    have el := rv.length
    have hit : i < its.length := by omega
    obtain ⟨t, e, ht, he, hel⟩ := hT i xs[i] (List.getElem?_eq_getElem hlt)
    have p1 := piled_take_succ ht
    have p2 := piled_take_le ts (i + 1)
    have rx : RelV xs[i] its[i] := by
      obtain ⟨u, e1, e2⟩ := Vals.get rv (List.getElem?_eq_getElem hlt)
      rw [List.getElem?_eq_getElem hit] at e1
      rw [Option.some.inj e1]
      exact e2
    refine codeAny_builtin F.entry_list_repr_loop ?_
    show wpAny _ _ («list.__repr__.loop» ⟨[.ref a, .int i 0, .ref P, .int ((base + piled (ts.take i) : Nat) : Int) 0], []⟩) _ _ s
    rw [repr_loop_tree]
    refine wpAny_bind (wpAny_listItems ho hd ?_)
    have e0 : its.toArray[(i : Int).toNat]? = some its[i] := by
      rw [Int.toNat_natCast, List.getElem?_toArray]
      exact List.getElem?_eq_getElem hit
    simp only [e0]
    rw [Int.toNat_natCast]
    have Ip := I.pinned (fp := [P]) (fun b hb => by rw [List.mem_singleton.mp hb]; exact hP) fun b hb => by rw [List.mem_singleton.mp hb]; exact ⟨_, hPo, nofun⟩
    refine wpAny_bind (wpAny_holding (hel (pins ++ pinsAt [P] s.heap) σ H s its[i] (base + piled (ts.take i) + 1) (inLoop A _) _ _ _ (hs0.trans hs) Ip rx (by omega) (guards_under_guard (isGuard_list_loop _) hg) ?_ ((inLoop_frames ?_).trans hf) ?_ fun H' s' hs' I' => ?_))
    · exact (hcl _ _).le he
    · rw [hf, I.ok.frames]; nofun
    · exact inLoop_room (hr.mono (by omega))
    obtain ⟨q1, q2, _⟩ := I'.pin (P, _) (List.mem_append_right _ (List.mem_append_right _ (mem_pinsAt (List.mem_singleton.mpr rfl) hPo)))
    have I2 := I'.unpinned
    have hP' : FpOk X pins H' P := ⟨q2, hP.2⟩
    refine wpAny_bind (wpAny_mkStr ?_ (by omega))
    refine wpAny_bind ?_
    show wpAny _ _ (updateSeq P _) _ _ _
    have za : acc.size ≤ sizeLine := by
      have w1 : acc.toList.length = acc.size := by simp
      have w2 : (strValues done).length = done.length := by simp [strValues]
      have w3 : done.length = (ts.take i).length := by rw [← hdone, List.length_map]
      have w4 : (ts.take i).length ≤ i := by rw [List.length_take]; omega
      rw [hacc] at w1
      omega
    refine wpAny_updateSeq q1 rfl (wpAny_pure ⟨F.quiet_list_repr_loop _, ?_⟩) za
    have w5 : ((i : Int) + 1) = ((i + 1 : Nat) : Int) := by omega
    have w6 : base + piled (ts.take i) + (t.length + 2) = base + piled (ts.take (i + 1)) := by omega
    rw [w5, w6]
    refine ih (i + 1) H' _ (acc.push (.str t s'.toks)) _ (done ++ [(t, s'.toks)]) (by omega) hlt (hs.trans hs') ((I2.tok _).turnedL (ch := [P]) (fun b o hb q => (Heap.get?_update_other _ _ (fun z => hb (by rw [z]; exact List.mem_singleton.mpr rfl))).trans q) fun b hb => by rw [List.mem_singleton.mp hb]; exact hP') hP' (Heap.get?_update_self _ q1 rfl) ?_ ?_
    · simp [hacc, strValues]
    · rw [List.map_append, hdone, List.take_succ, ht]; rfl
theorem listW {A : Around} {g : List Code} {a : Addr} {xs : List V} {ts : List Str} {d base : Nat} {pins : List (Addr × Obj)} {σ : L2.St} {R : Result → Shared → Prop} {H : Hp} {s : Shared} (hx : NSeq RS H0) (h0 : H0 a = some (.lst xs)) (hsv : SwAll X.K RS H0 xs ts d) (hne : xs ≠ []) (hs : Same H0 H) (I : Inv X pins σ H s)
    (hg : A.guards = some g) (hcl : ClrW X.K RS H0 g (d + 1)) (hf : A.frames = X.A.frames) (hr : Room (k + d + 1) A) (hT : ∀ (i : Nat) (v : V), xs[i]? = some v → ∃ t e, ts[i]? = some t ∧ e ≤ d ∧ Elw X RS H0 k v t e) (hsz : base + (listText ts).length ≤ sizeLine)
    (hR : ∀ H' s' u, Same H H' → Inv X pins σ H' s' → R (.ok (.ret (.str (listText ts) u))) s') :
    wpAny (model X.prog X.w) A.in1 (Builtin.listReprAt base ⟨[.ref a], []⟩) (fun fin s' => match fin with | .done f => R (.ok f) s' | .again c' => c'.quiet = true ∧ codeAny (model X.prog X.w) A c' R s') (fun e s' => R (.error e) s') s := by
  obtain ⟨its, rv, ⟨o, n, ho, _, _, hd⟩, _⟩ := I.list (SqL.of (hs _ _ h0))
  have hca : Clear g a := hcl a _ _ (Nat.le_refl _) (.lst h0 hsv)
  cases its with
  | nil => exact absurd (List.eq_nil_of_length_eq_zero rv.length) hne
  | cons y l =>
    refine wpAny_list_repr_head (A := A.in1) hg (fun v rest kw hm => listSameRef_of_ne (hca _ _ _ _ hm)) ho hd ?_
    refine wpAny_bind (m := newList []) (wpAny_newObj_type ?_)
    refine wpAny_pure ⟨F.quiet_list_repr_loop _, ?_⟩
    refine loopW (d := d) (P := s.heap.objs.size) (Hs := H) h0 hs (Nat.ne_of_lt (Heap.lt_size ho)) hg (fun rest kw b t e he hb => ?_) hf hr (sws_len hsv) hT hsz hR _ 0 H _ #[] _ [] rfl (Nat.zero_le _) (Same.refl _) (I.kept fun b o e => Heap.get?_push_of_some _ e) (I.fpOk (Nat.le_refl _) (I.hok.fresh (Nat.le_refl _))) (Heap.get?_push_size _ rfl) rfl (by simp)
    exact (hcl b t e (by omega) hb).cons fun z => by
      subst z
      have := sw_deep hx ((uq_of I).back hs) hb (.lst h0 hsv)
      omega
theorem elw_lst {a : Addr} {xs : List V} {ts : List Str} {d : Nat} (hx : NSeq RS H0) (h0 : H0 a = some (.lst xs)) (hsv : SwAll X.K RS H0 xs ts d) (hT : ∀ (i : Nat) (v : V), xs[i]? = some v → ∃ t e, ts[i]? = some t ∧ e ≤ d ∧ Elw X RS H0 k v t e) : Elw X RS H0 k (.ref a) (listText ts) (d + 1) := by
  intro pins σ H s u base A g E Q hs I ru hsz hg hcl hf hr hQ
  obtain rfl : u = .ref a := ru
  have hu : A.units < cLine := by have := hr.un; omega
  obtain ⟨its, rv, ⟨o, n, ho, hc, _, hd⟩, _⟩ := I.list (SqL.of (hs _ _ h0))
  by_cases hne : xs = []
  · subst hne
    cases hsv
    cases rv
    exact wpAny_pyReprUnder_ref (by omega) (wpAny_pyReprObjUnder_list_empty ⟨o, ho, hc⟩ hu ho hd ⟨_, _, rfl, hQ H _ (Same.refl _) (I.tok _)⟩)
  · refine wpAny_pyReprUnder_ref (by omega) (wpAny_pyReprObjUnder_twin (twin := "list.__repr__.under") ⟨o, ho, hc⟩ F.slot_list_repr.toG rfl hu ?_)
    exact call_twin_plain F.plain_list_repr_under F.entry_list_repr_under F.check_list_repr_under ⟨o, ho, hc⟩ F.slot_list_repr.toG (F.args_list_repr_1 _)
      (listW (R := callEnd _ _) hx h0 hsv hne hs I hg hcl hf hr hT hsz fun H' s' u s1 I1 => ⟨⟨_, _, rfl⟩, _, _, rfl, hQ H' s' s1 I1⟩)
inductive ElwL (X : Cx) (RS : Hp → V → Str → Prop) (H0 : Hp) (k d : Nat) : List V → List Str → Prop
  | nil : ElwL X RS H0 k d [] []
  | cons {v : V} {t : Str} {xs : List V} {ts : List Str} {e : Nat} : e ≤ d → Elw X RS H0 k v t e → ElwL X RS H0 k d xs ts → ElwL X RS H0 k d (v :: xs) (t :: ts)
theorem elwL_of {d : Nat} : ∀ {xs : List V} {ts : List Str}, ts.length = xs.length → (∀ (i : Nat) (v : V), xs[i]? = some v → ∃ t e, ts[i]? = some t ∧ e ≤ d ∧ Elw X RS H0 k v t e) → ElwL X RS H0 k d xs ts
  | [], [], _, _ => .nil
  | v :: xs, [], h, _ => by cases h
  | [], t :: ts, h, _ => by cases h
  | v :: xs, t :: ts, h, hT => by
    obtain ⟨t', e, h1, h2, h3⟩ := hT 0 v rfl
    cases h1
    exact .cons h2 h3 (elwL_of (by simpa using h) fun i v h => hT (i + 1) v (by simpa using h))
theorem ElwL.len {d : Nat} : ∀ {xs : List V} {ts : List Str}, ElwL X RS H0 k d xs ts → ts.length = xs.length
  | _, _, .nil => rfl
  | _, _, .cons _ _ r => by simp [r.len]
theorem tupFoldW {A : Around} {g : List Code} {d : Nat} {pins : List (Addr × Obj)} {σ : L2.St} {E : Value → Shared → Prop} (hg : A.guards = some g) (hcl : ClrW X.K RS H0 g d) (hf : A.frames = X.A.frames) (hr : Room (k + d) A) :
    ∀ (l : List Value) (xs : List V) (ts : List Str) (acc : Array Str) (n : Nat) (H : Hp) (s : Shared) (Q : (Array Str × Nat) → Shared → Prop), Vals xs l → ElwL X RS H0 k d xs ts → Same H0 H → Inv X pins σ H s → n + piled ts ≤ sizeLine →
      (∀ H' s', Same H H' → Inv X pins σ H' s' → Q ⟨acc ++ ts.toArray, n + piled ts⟩ s') → wpAny (model X.prog X.w) A (forIn l (⟨acc, n⟩ : (Array Str × Nat)) tupBody) Q E s := by
  intro l
  induction l with
  | nil =>
    intro xs ts acc n H s Q hv hT hs I hn h
    cases hv
    cases hT
    simp only [List.forIn_nil]
    exact wpAny_pure (by simpa [piled] using h H s (Same.refl _) I)
  | cons x l ih =>
    intro xs ts acc n H s Q hv hT hs I hn h
    cases hv with
    | cons hv1 hv2 =>
      cases hT with
      | cons he hx hl =>
        rename_i v xs' t ts' e
        rw [piled_cons] at hn
        rw [List.forIn_cons]
        refine wpAny_bind (wpAny_bind (hx pins σ H s x (n + 1) A g _ _ hs I hv1 (by omega) hg (hcl.le he) hf (hr.mono (by omega)) fun H' s' s1 I1 => wpAny_pure ?_))
        refine ih xs' ts' (acc.push t) (n + (t.length + 2)) H' _ Q hv2 hl (hs.trans s1) I1 (by omega) fun H'' s'' s2 I2 => ?_
        have h1 := h H'' s'' (s1.trans s2) I2
        have e : n + piled (t :: ts') = n + (t.length + 2) + piled ts' := by rw [piled_cons]; omega
        rw [e] at h1
        simpa using h1
theorem under_room {A : Around} {c : Code} {k : Nat} (hu : (A.under c).units = A.units + 1) (hd : (A.under c).depth ≤ A.depth + 1) (h : Room (k + 1) A) : Room k (A.under c) := by
  refine ⟨h.hd, ?_, ?_⟩
  · have h1 := h.dp
    omega
  · have h1 := h.un
    rw [hu]
    omega
theorem tupleW {A : Around} {g : List Code} {a : Addr} {xs : List V} {ts : List Str} {d base : Nat} {pins : List (Addr × Obj)} {σ : L2.St} {R : Result → Shared → Prop} {H : Hp} {s : Shared} {id : String} {rest : List Value} (hx : NSeq RS H0) (h0 : SqT X.K H0 a xs) (hsv : SwAll X.K RS H0 xs ts d) (hs : Same H0 H) (I : Inv X pins σ H s)
    (hcg : (Code.builtin id ⟨.ref a :: rest, []⟩).isGuard = true) (hcu : (A.under (.builtin id ⟨.ref a :: rest, []⟩)).units = A.units + 1) (hcd : (A.under (.builtin id ⟨.ref a :: rest, []⟩)).depth ≤ A.depth + 1) (hcf : (A.under (.builtin id ⟨.ref a :: rest, []⟩)).frames = A.frames)
    (hg : A.guards = some g) (hcl : ClrW X.K RS H0 g (d + 1)) (hf : A.frames = X.A.frames) (hr : Room (k + d + 1) A) (hT : ∀ (i : Nat) (v : V), xs[i]? = some v → ∃ t e, ts[i]? = some t ∧ e ≤ d ∧ Elw X RS H0 k v t e) (hsz : base + (tupleText ts).length ≤ sizeLine)
    (hR : ∀ H' s' u, Same H H' → Inv X pins σ H' s' → R (.ok (.ret (.str (tupleText ts) u))) s') :
    wpOwn (model X.prog X.w) A (.builtin id ⟨.ref a :: rest, []⟩) (Builtin.tupleReprAt base ⟨[.ref a], []⟩) (fun fin s' => match fin with | .done f => R (.ok f) s' | .again c' => c'.quiet = true ∧ codeAny (model X.prog X.w) A c' R s') (fun e s' => R (.error e) s') s := by
  obtain ⟨its, rv, ⟨o, ho, hc, n, hd⟩, _⟩ := I.tuple (sqt_same hs h0)
  have hca : Clear g a := hcl a _ _ (Nat.le_refl _) (.tup h0 hsv)
  have hlen : ts.length = xs.length := sws_len hsv
  have hl2 := rv.length
  have hp := piled_le_tupleText ts
  have hsz0 : (tupleText ts).length ≤ sizeLine := by omega
  rw [tuple_repr_tree, tupleReprUnderWay_eq]
  refine wpOwn_bind (wpOwn_stackTailAny hg (tupGuardF_off _) (tupGuardF_pos _) ?_)
  have hn : (g.any fun c => tupGuardF (.ref a) (c, default)) = false := by
    rw [List.any_eq_false]
    intro c hcm
    rw [tupGuardF_of_clear hca c hcm]
    exact Bool.false_ne_true
  rw [hn]
  refine wpOwn_of_wpAny ?_
  show wpAny _ _ (tupleReprRest base (.ref a)) _ _ s
  unfold tupleReprRest Builtin.Tuple.tupleItemsOf
  refine wpAny_bind (wpAny_bind (wpAny_seqItems ho hd (wpAny_pure ?_)))
  rw [← Array.forIn_toList]
  refine wpAny_bind (tupFoldW (d := d) (guards_under_guard hcg hg) (fun b t e he hb => (hcl b t e (by omega) hb).cons fun z => ?_) (hcf.trans hf) (under_room hcu hcd hr) _ xs ts _ _ H _ _ (by simpa using rv) (elwL_of hlen hT) hs I (by omega) fun H' s' s1 I1 => ?_)
  · subst z
    have := sw_deep hx ((uq_of I).back hs) hb (.tup h0 hsv)
    omega
  refine wpAny_bind (wpAny_mkStr (wpAny_pure ?_) (by simpa [tupleText, hlen, hl2] using hsz0))
  have h1 := hR H' { s' with toks := s'.toks + 1 } s'.toks s1 (I1.tok _)
  simpa [tupleText, hlen, hl2] using h1
theorem tupUnder {A : Around} {id : String} (args : Args) (hid : id = "tuple.__repr__.under" ∨ id = "tuple.__repr__") (hf : A.frames ≠ none) : (A.under (.builtin id args)).frames = A.frames ∧ (A.under (.builtin id args)).depth ≤ A.depth + 1 := by
  have hq : (Code.builtin id args).isFrame = false := rfl
  constructor
  · cases e : A.frames with
    | none => exact absurd e hf
    | some l => simp [Around.under, Code.envs, pushEnvs, e, hq, Code.frames]
  · rcases hid with rfl | rfl <;> simp [Around.under, Code.weight, Code.isCreation, Code.isGuard, Code.isCaller, Code.frames, Code.isFrame, guardIds]
theorem elw_tup {a : Addr} {xs : List V} {ts : List Str} {d : Nat} (hx : NSeq RS H0) (h0 : SqT X.K H0 a xs) (hsv : SwAll X.K RS H0 xs ts d) (hT : ∀ (i : Nat) (v : V), xs[i]? = some v → ∃ t e, ts[i]? = some t ∧ e ≤ d ∧ Elw X RS H0 k v t e) : Elw X RS H0 k (.ref a) (tupleText ts) (d + 1) := by
  intro pins σ H s u base A g E Q hs I ru hsz hg hcl hf hr hQ
  obtain rfl : u = .ref a := ru
  have hu : A.units < cLine := by have := hr.un; omega
  obtain ⟨its, rv, ⟨o, ho, hc, n, hd⟩, _⟩ := I.tuple (sqt_same hs h0)
  have hfn : A.frames ≠ none := by rw [hf, I.ok.frames]; nofun
  refine wpAny_pyReprUnder_ref (by omega) (wpAny_pyReprObjUnder_twin (twin := "tuple.__repr__.under") ⟨o, ho, hc⟩ F.slot_tuple_repr rfl hu ?_)
  have tu := tupUnder (A := A) (id := "tuple.__repr__.under") ⟨[.ref a, rawInt base], []⟩ (.inl rfl) hfn
  exact call_twin_own (F.quiet_tuple_repr_under _) F.entry_tuple_repr_under F.check_tuple_repr_under ⟨o, ho, hc⟩ F.slot_tuple_repr (F.args_tuple_repr_1 _)
    (tupleW (R := callEnd _ _) hx h0 hsv hs I (isGuard_tuple_repr_under _) (units_under_tuple_repr_under _ _) tu.2 tu.1 hg hcl hf hr hT hsz fun H' s' u s1 I1 => ⟨⟨_, _, rfl⟩, _, _, rfl, hQ H' s' s1 I1⟩)
theorem elw_is {v : V} {t : Str} (h : ∀ u, RelV v u → ReprIs X.prog X.w u t) : Elw X RS H0 k v t 0 := fun pins σ H s u base A g E Q hs I ru hsz _ _ _ _ hQ => h u ru base hsz A E s Q fun tk => hQ H _ (Same.refl _) (I.tok _)
theorem elw_dct {a : Addr} (h : H0 a = some (.dK [])) : Elw X RS H0 k (.ref a) (dictText []) 0 := by
  intro pins σ H s u base A g E Q hs I ru hsz hg hcl hf hr hQ
  obtain rfl : u = .ref a := ru
  obtain ⟨_, hsm, vs, hkv, o, es, ep, ho, hx, hd, _, hp, _⟩ := dk_of I.hok (hs _ _ h)
  have ev : vs = [] := by
    cases hkv
    rfl
  subst ev
  have ee : es.toList = [] := by
    generalize es.toList = l at hp
    cases hp
    rfl
  refine ReprK.dict (as := []) (d := 0) ho hx.1 hd hsm nofun (by rw [ee]; exact .nil) base hsz A g E s Q hg (fun b hb => ?_) (by have := hr.un; omega) (fun _ _ e => e) fun h' tk hk => hQ H _ (Same.refl _) (I.kept hk)
  rw [List.mem_singleton.mp hb]
  exact hcl a _ 0 (Nat.le_refl _) (.dct h)
mutual
theorem elw_of (hx : NSeq RS H0) (hown : ∀ v t, RS H0 v t → Elw X RS H0 k v t 0) : ∀ {v : V} {t : Str} {d : Nat}, Sw X.K RS H0 v t d → Elw X RS H0 k v t d
  | _, _, _, .non => elw_is fun u r => by cases r; exact ReprIs.none
  | _, _, _, .bl b => elw_is fun u r => by cases r; exact ReprIs.bool b
  | _, _, _, .int i h => elw_is fun u r => by obtain ⟨t, rfl⟩ := r; exact ReprIs.int t h
  | _, _, _, .str x h => elw_is fun u r => by obtain ⟨t, rfl⟩ := r; exact ReprIs.str x t h
  | _, _, _, .own h => hown _ _ h
  | _, _, _, .dct h => elw_dct h
  | _, _, _, .lst h r => elw_lst hx h r fun i v e => elwAll hx hown r i v e
  | _, _, _, .tup h r => elw_tup hx h r fun i v e => elwAll hx hown r i v e
theorem elwAll (hx : NSeq RS H0) (hown : ∀ v t, RS H0 v t → Elw X RS H0 k v t 0) : ∀ {xs : List V} {ts : List Str} {d : Nat}, SwAll X.K RS H0 xs ts d → ∀ (i : Nat) (v : V), xs[i]? = some v → ∃ t e, ts[i]? = some t ∧ e ≤ d ∧ Elw X RS H0 k v t e
  | _, _, _, .nil, i, v, e => by simp at e
  | _, _, _, .cons (d := d1) h _, 0, v, e => by
    simp at e
    subst e
    exact ⟨_, d1, rfl, Nat.le_max_left _ _, elw_of hx hown h⟩
  | _, _, _, .cons _ r, i + 1, v, e => by
    obtain ⟨t, e1, h1, h2, h3⟩ := elwAll hx hown r i v (by simpa using e)
    exact ⟨t, e1, by simpa using h1, Nat.le_trans h2 (Nat.le_max_right _ _), h3⟩
end
theorem elw_own {C q : Str} {st : Stmt} {ps : List Str} {sp : Sp} {js : List Nat} (F : HasMA X.prog X.w X.K X.mg X.base C8.CX0 k C "__repr__" q st [] ps sp) (hb : BindJ "__repr__" q st ps 0 1 [] js) {v : V} {t : Str} (h : OwnR X.K C sp js H0 v t) : Elw X RS H0 k v t 0 := by
  intro pins σ H s u base A g E Q hs I ru hsz hg _ hf hr hQ
  obtain ⟨a, dx, fl, rfl, ha, hq⟩ := h
  obtain rfl : u = .ref a := ru
  obtain ⟨fd, FD, G⟩ := F.ex
  obtain ⟨gg, B⟩ := kbn FD hb
  obtain ⟨mA, J, _⟩ := ins_get I.hok (hs _ _ ha)
  obtain ⟨od, J, _⟩ := J.look
  have e0 : Env0 X.prog X.w X.K X.mg X.base A X.stack s H := by
    have e := I.env0
    exact ⟨by rw [hf]; exact e.frames, e.mod, e.bs, e.bsz, e.funs, e.frf, e.hok, e.bare⟩
  refine wpAny_pyReprUnder_ref (by omega) (wpAny_mono (under_own (Q := fun v s' => ∃ x u, v = .str x u ∧ Q x s') (by have := hr.un; omega) I.kIn J F.mt.at_ F.mt.fn ?_) (fun v s' hv => ?_) fun _ _ x => x)
  · have b := B.to s [.ref a] [] I.kIn rfl rfl
    refine wpAny_call (codeAny_mono (G.run A X.stack s H ⟨[.ref a], []⟩ _ _ _ _ hr e0 b (B.rel (.cons (show RelV (.ref a) (.ref a) from rfl) .nil) .nil) (hq H (ExtN.of hs))) fun z s' hz => ?_)
    cases z with
    | error e => exact (show False from hz).elim
    | ok flw =>
      cases flw with
      | ret u =>
        obtain ⟨v, H', I', rv, rfl, s1⟩ := I.after hz
        obtain ⟨tk, rfl⟩ := rv
        exact ⟨_, _, rfl, hQ H' _ s1 I'⟩
      | next => exact hz.elim
      | brk => exact hz.elim
      | cont => exact hz.elim
  · obtain ⟨x, u, rfl, y, u2, e, hq2⟩ := hv
    cases e
    exact ⟨_, _, rfl, hq2⟩
end
section
variable {X : Cx} {k : Nat}
theorem ownR_seq {K : PySem.W.Frag} {C : Str} {sp : Sp} {js : List Nat} {H : Hp} : NSeq (OwnR K C sp js) H := fun a t h => by
  obtain ⟨b, dx, fl, e, h1, _⟩ := h
  cases e
  exact ⟨_, _, _, h1⟩
/-- repr(v) -/
def rReprW (K : PySem.W.Frag) (RS : Hp → V → Str → Prop) : List V → Hp → VK → Prop := fun xs H Q => ∃ v t d, xs = [v] ∧ Sw K RS H v t d ∧ d ≤ 5 ∧ (∃ a l, v = .ref a ∧ (H a = some (.lst l) ∨ SqT K H a l)) ∧ t.length ≤ sizeLine ∧ ∀ H', Same H H' → Q (.str t) H'
theorem k_reprW {C q : Str} {st : Stmt} {ps : List Str} {sp : Sp} {js : List Nat} (F : HasMA X.prog X.w X.K X.mg X.base C8.CX0 k C "__repr__" q st [] ps sp) (hb : BindJ "__repr__" q st ps 0 1 [] js) (hr : Room (k + 7) X.A) (hg : X.A.guards = some []) : CallR X (.builtin "repr") (rReprW X.K (OwnR X.K C sp js)) := by
  intro pins s σ H xs us Q I r h
  obtain ⟨v, t, d, rfl, hsv, hd, ⟨a, l, rfl, ha⟩, hz, hQ⟩ := h
  obtain ⟨u, rfl, ru⟩ := vals1 r
  obtain rfl : u = .ref a := ru
  have hu : X.A.units + 1 < cLine := by have := hr.un; omega
  rcases ha with ha | ha
  · obtain ⟨its, rv, ⟨o, n, ho, hc, _, hdd⟩, _⟩ := I.list (SqL.of ha)
    refine call_repr_slot hu ⟨o, ho, hc⟩ PySem.F.slot_list_repr.toG ?_
    cases hsv with
    | own z =>
      obtain ⟨C, dx, fl, e⟩ := ownR_seq _ _ z
      rw [e] at ha; cases ha
    | dct z => rw [z] at ha; cases ha
    | tup z _ => exact absurd ha (((uq_of I) _ _ z).2.1 _)
    | @lst _ xs ts d h0 hs =>
      by_cases hne : xs = []
      · subst hne
        rw [h0] at ha
        cases ha
        cases hs
        cases rv
        exact call_list_repr_empty ⟨o, ho, hc⟩ ho hdd ⟨_, _, rfl, .str "[]", H, I.tok _, ⟨_, rfl⟩, hQ H (Same.refl _)⟩
      · refine wpAny_call (codeAny_call_builtin PySem.F.slot_list_repr.plain PySem.F.entry_list_repr (PySem.F.slot_list_repr.check _ _ _ _ _ _ _ _ ⟨o, ho, hc⟩ (PySem.F.args_list_repr_1 _)
          (listW (k := k) (base := 0) (R := callEnd _ _) ownR_seq h0 hs hne (Same.refl _) I (show X.A.in1.guards = some [] from hg) (fun _ _ _ _ _ => Clear.nil _) rfl ?_ (fun i v e => elwAll ownR_seq (fun v t h => elw_own F hb h) hs i v e) (by omega) fun H' s' u s1 I1 => ⟨_, _, rfl, .str (listText ts), H', I1, ⟨_, rfl⟩, hQ H' s1⟩)))
        exact (Room.mono (show Room (k + 6) X.A.in1 from hr.in1) (by omega))
  · obtain ⟨its, rv, ⟨o, ho, hc, n, hdd⟩, _⟩ := I.tuple ha
    refine call_repr_slot hu ⟨o, ho, hc⟩ PySem.F.slot_tuple_repr ?_
    cases hsv with
    | own z =>
      obtain ⟨C, dx, fl, e⟩ := ownR_seq _ _ z
      exact absurd e (((uq_of I) _ _ ha).2.2.2 _ _ _)
    | dct z => exact absurd z ((uq_of I) _ _ ha).2.2.1
    | lst z _ => exact absurd z (((uq_of I) _ _ ha).2.1 _)
    | @tup _ xs ts d h0 hs =>
      have hfn : X.A.in1.frames ≠ none := by
        have := I.ok.frames
        rw [show X.A.in1.frames = X.A.frames from rfl, this]; nofun
      have tu := tupUnder (A := X.A.in1) (id := "tuple.__repr__") ⟨[.ref a], []⟩ (.inr rfl) hfn
      refine wpAny_call (codeAny_call_builtin_own (Code.quiet_builtin _ (by decide +kernel)) PySem.F.entry_tuple_repr (PySem.F.slot_tuple_repr.check _ _ _ _ _ _ _ _ ⟨o, ho, hc⟩ (PySem.F.args_tuple_repr_1 _)
        (tupleW (k := k) (base := 0) (R := callEnd _ _) ownR_seq h0 hs (Same.refl _) I (isGuard_tuple_repr _) (units_under_tuple_repr _ _) tu.2 tu.1 (show X.A.in1.guards = some [] from hg) (fun _ _ _ _ _ => Clear.nil _) rfl ?_ (fun i v e => elwAll ownR_seq (fun v t h => elw_own F hb h) hs i v e) (by omega) fun H' s' u s1 I1 => ⟨_, _, rfl, .str (tupleText ts), H', I1, ⟨_, rfl⟩, hQ H' s1⟩)))
      exact (Room.mono (show Room (k + 6) X.A.in1 from hr.in1) (by omega))
end
/-- .. of data, or of a list or a tuple in which own objects stand -/
def rReprV (K : PySem.W.Frag) (RS : Hp → V → Str → Prop) : List V → Hp → VK → Prop := fun xs H Q => rReprX K xs H Q ∨ rReprW K RS xs H Q
theorem k_reprV {X : Cx} {k : Nat} (K : PySem.W.Frag) {C q : Str} {st : Stmt} {ps : List Str} {sp : Sp} {js : List Nat} (F : HasMA X.prog X.w K X.mg X.base C8.CX0 k C "__repr__" q st [] ps sp) (hb : BindJ "__repr__" q st ps 0 1 [] js) (hr : Room (k + 7) X.A) (hg : X.A.guards = some []) (hu : X.A.units + 64 < cLine) (hK : X.K = K := by rfl) : CallR X (.builtin "repr") (rReprV K (OwnR K C sp js)) := by
  subst hK
  intro pins s σ H xs us Q I r h
  rcases h with h | h
  · exact call_reprX hg hu pins s σ H xs us Q I r h
  · exact k_reprW F hb hr hg pins s σ H xs us Q I r h
theorem w_reprVd {K : PySem.W.Frag} {RS : Hp → V → Str → Prop} {H : Hp} {Q : VK} {v : V} {d : PyData} (h : Dx K H v d) (s : ShowsX d) (q : Q (.str d.shown) H) : rReprV K RS [v] H Q := .inl ⟨v, d, rfl, h, s, q⟩
theorem w_reprVo {K : PySem.W.Frag} {RS : Hp → V → Str → Prop} {H : Hp} {Q : VK} {a : Addr} {l : List V} {t : Str} {d : Nat} (h : Sw K RS H (.ref a) t d) (hd : d ≤ 5) (ha : H a = some (.lst l) ∨ SqT K H a l) (ht : t.length ≤ 1000000) (q : ∀ H', Same H H' → Q (.str t) H') : rReprV K RS [.ref a] H Q := .inr ⟨.ref a, t, d, rfl, h, hd, ⟨a, l, rfl, ha⟩, Nat.le_trans ht (by rw [sizeLine_eq]; decide), q⟩
end TP

namespace TP
open PySem PySem.Spec PyProof.Rows L2
/-! ### collectors: what may change, and what stays -/
def mayC : HO → Bool
  | .tbl _ => true
  | .ins _ _ fl => decide (3 ≤ fl.length)
  | _ => false
def SameC (H H' : Hp) : Prop := ∀ b u, H b = some u → mayC u = false → H' b = some u
theorem SameC.refl (H : Hp) : SameC H H := fun _ _ e _ => e
theorem SameC.trans {H H1 H2 : Hp} (a : SameC H H1) (b : SameC H1 H2) : SameC H H2 := fun c u e n => b c u (a c u e n) n
theorem SameC.of {H H' : Hp} (s : Same H H') : SameC H H' := fun b u e _ => s b u e
theorem SameC.ofB {H H' : Hp} {a : Addr} {o : HO} (s : SameB a H H') (e : H a = some o) (m : mayC o = true) : SameC H H' := fun b u eb n => s b u (fun z => by
  rw [z, e] at eb
  cases eb
  rw [m] at n; cases n) eb
section
variable {K : PySem.W.Frag} {H H' : Hp}
theorem sql_c {a : Addr} {xs : List V} (s : SameC H H') (h : SqL K H a xs) : SqL K H' a xs := by
  rcases h with (h | ⟨o, h⟩) | h
  · exact .inl (.inl (s _ _ h rfl))
  · exact .inl (.inr ⟨o, s _ _ h rfl⟩)
  · exact .inr h
theorem sqt_c {a : Addr} {xs : List V} (s : SameC H H') (h : SqT K H a xs) : SqT K H' a xs := by
  rcases h with (h | ⟨o, h⟩) | h
  · exact .inl (.inl (s _ _ h rfl))
  · exact .inl (.inr ⟨o, s _ _ h rfl⟩)
  · exact .inr h
mutual
theorem dp_c (s : SameC H H') : ∀ {v : V} {d : PyData}, Dp K H v d → Dp K H' v d
  | _, _, .non => .non
  | _, _, .bl b => .bl b
  | _, _, .int i => .int i
  | _, _, .str x => .str x
  | _, _, .lst h r => .lst (sql_c s h) (dps_c s r)
  | _, _, .tup h r => .tup (sqt_c s h) (dps_c s r)
theorem dps_c (s : SameC H H') : ∀ {vs : List V} {ds : List PyData}, DpAll K H vs ds → DpAll K H' vs ds
  | _, _, .nil => .nil
  | _, _, .cons h r => .cons (dp_c s h) (dps_c s r)
end
theorem sum_c {v : V} {c : Int} {ps : Bag} (s : SameC H H') (h : SumO K H v c ps) : SumO K H' v c ps := by
  obtain ⟨a, dx, b, rfl, h1, h2⟩ := h
  exact ⟨a, dx, b, rfl, s _ _ h1 rfl, dp_c s h2⟩
theorem lst_c {a : Addr} {xs : List V} (s : SameC H H') (h : H a = some (.lst xs)) : H' a = some (.lst xs) := s _ _ h rfl
theorem tup_c {a : Addr} {xs : List V} (s : SameC H H') (h : H a = some (.tup xs)) : H' a = some (.tup xs) := s _ _ h rfl
theorem pool_c {p : Addr} (s : SameC H H') (h : H p = some (poolO p)) : H' p = some (poolO p) := s _ _ h rfl
end
/-- two lists, one beside the other -/
inductive All2 {α β : Type} (R : α → β → Prop) : List α → List β → Prop
  | nil : All2 R [] []
  | cons {a : α} {b : β} {as : List α} {bs : List β} : R a b → All2 R as bs → All2 R (a :: as) (b :: bs)
namespace All2
variable {α β : Type} {R S : α → β → Prop}
theorem imp (h : ∀ a b, R a b → S a b) : ∀ {as : List α} {bs : List β}, All2 R as bs → All2 S as bs
  | _, _, .nil => .nil
  | _, _, .cons x r => .cons (h _ _ x) (r.imp h)
theorem len : ∀ {as : List α} {bs : List β}, All2 R as bs → as.length = bs.length
  | _, _, .nil => rfl
  | _, _, .cons _ r => by simp [r.len]
theorem get : ∀ {as : List α} {bs : List β} {i : Nat} {a : α}, All2 R as bs → as[i]? = some a → ∃ b, bs[i]? = some b ∧ R a b
  | _, _, i, _, .nil, e => by simp at e
  | _, _, 0, _, .cons x _, e => by simp at e; subst e; exact ⟨_, rfl, x⟩
  | _, _, i + 1, _, .cons _ r, e => by
    obtain ⟨b, e1, x⟩ := r.get (i := i) (by simpa using e)
    exact ⟨b, by simpa using e1, x⟩
theorem get' : ∀ {as : List α} {bs : List β} {i : Nat} {b : β}, All2 R as bs → bs[i]? = some b → ∃ a, as[i]? = some a ∧ R a b
  | _, _, i, _, .nil, e => by simp at e
  | _, _, 0, _, .cons x _, e => by simp at e; subst e; exact ⟨_, rfl, x⟩
  | _, _, i + 1, _, .cons _ r, e => by
    obtain ⟨b, e1, x⟩ := r.get' (i := i) (by simpa using e)
    exact ⟨b, by simpa using e1, x⟩
theorem app : ∀ {as : List α} {bs : List β} {cs : List α} {ds : List β}, All2 R as bs → All2 R cs ds → All2 R (as ++ cs) (bs ++ ds)
  | _, _, _, _, .nil, h => h
  | _, _, _, _, .cons x r, h => .cons x (r.app h)
theorem take : ∀ {as : List α} {bs : List β} (n : Nat), All2 R as bs → All2 R (as.take n) (bs.take n)
  | _, _, 0, _ => .nil
  | _, _, n + 1, .nil => .nil
  | _, _, n + 1, .cons x r => .cons x (r.take n)
theorem drop : ∀ {as : List α} {bs : List β} (n : Nat), All2 R as bs → All2 R (as.drop n) (bs.drop n)
  | _, _, 0, h => h
  | _, _, n + 1, .nil => .nil
  | _, _, n + 1, .cons x r => r.drop n
theorem of : ∀ {as : List α} {bs : List β}, as.length = bs.length → (∀ (i : Nat) (a : α) (b : β), as[i]? = some a → bs[i]? = some b → R a b) → All2 R as bs
  | [], [], _, _ => .nil
  | [], b :: bs, h, _ => by cases h
  | a :: as, [], h, _ => by cases h
  | a :: as, b :: bs, h, hT => .cons (hT 0 a b rfl rfl) (of (by simpa using h) fun i a b h1 h2 => hT (i + 1) a b (by simpa using h1) (by simpa using h2))
end All2
/-! ### entries, actions, states -/
inductive Row where
  | run (n : Str) (m : Int)
  | sum (qs : Bag)
inductive Act where
  | arrive (n : Str) (m : Int)
  | merge (qs : Bag)
  | insert (i : Nat) (n : Str) (m : Int)
  | remove (i : Nat)
  | start (qs : Bag)
abbrev StA : Type := Bag × List Row
def RowV (c : Int) : Row → Prop
  | .run n m => isName n = true ∧ 1 ≤ m ∧ m ≤ 10 ^ 32
  | .sum qs => SumV c qs ∧ sumC qs ≤ 10 ^ 32
def StV (c : Int) (s : StA) : Prop := SumV c s.1 ∧ sumC s.1 ≤ 10 ^ 32 ∧ (∀ r ∈ s.2, RowV c r)
def ActV (c : Int) (n : Nat) : Act → Prop
  | .arrive x m => isName x = true ∧ 1 ≤ m ∧ m ≤ 10 ^ 32
  | .merge qs => SumV c qs ∧ sumC qs ≤ 10 ^ 32
  | .insert i x m => i ≤ n ∧ isName x = true ∧ 1 ≤ m ∧ m ≤ 10 ^ 32
  | .remove i => i < n
  | .start qs => SumV c qs ∧ sumC qs ≤ 10 ^ 32
def stepA (s : StA) : Act → StA
  | .arrive x m => (s.1, s.2 ++ [.run x m])
  | .merge qs => (s.1, s.2 ++ [.sum qs])
  | .insert i x m => (s.1, s.2.take i ++ [.run x m] ++ s.2.drop i)
  | .remove i => (s.1, s.2.take i ++ s.2.drop (i + 1))
  | .start qs => (qs, s.2)
theorem stepA_len (s : StA) (a : Act) : (stepA s a).2.length ≤ s.2.length + 1 := by
  cases a <;> simp [stepA] <;> omega
theorem stepA_ok {c : Int} {s : StA} {a : Act} (h : StV c s) (ha : ActV c s.2.length a) : StV c (stepA s a) := by
  obtain ⟨h1, h2, h3⟩ := h
  cases a with
  | arrive x m =>
    refine ⟨h1, h2, fun r hr => ?_⟩
    rcases List.mem_append.mp hr with hr | hr
    · exact h3 r hr
    · cases List.mem_singleton.mp hr; exact ha
  | merge qs =>
    refine ⟨h1, h2, fun r hr => ?_⟩
    rcases List.mem_append.mp hr with hr | hr
    · exact h3 r hr
    · cases List.mem_singleton.mp hr; exact ha
  | insert i x m =>
    refine ⟨h1, h2, fun r hr => ?_⟩
    rcases List.mem_append.mp hr with hr | hr
    · rcases List.mem_append.mp hr with hr | hr
      · exact h3 r (List.mem_of_mem_take hr)
      · cases List.mem_singleton.mp hr; exact ha.2
    · exact h3 r (List.mem_of_mem_drop hr)
  | remove i =>
    refine ⟨h1, h2, fun r hr => ?_⟩
    rcases List.mem_append.mp hr with hr | hr
    · exact h3 r (List.mem_of_mem_take hr)
    · exact h3 r (List.mem_of_mem_drop hr)
  | start qs => exact ⟨ha.1, ha.2, h3⟩
/-! ### the current counts -/
def StepR (c : Int) (p : Bag) : Row → Bag → Prop
  | .run n m, q => SumV c q ∧ q.Perm (arrT c p n m).1
  | .sum qs, q => SumV c q ∧ MergeR c p qs q
theorem stepR_unique {c : Int} {p : Bag} {r : Row} {q q' : Bag} (h : StepR c p r q) (h' : StepR c p r q') : q = q' := by
  cases r with
  | run n m => exact asc_perm h.1.ok.asc h'.1.ok.asc (h.2.trans h'.2.symm)
  | sum qs => exact merge_unique h.2 h'.2
open Classical in
noncomputable def stepS (c : Int) (p : Bag) (r : Row) : Bag := if h : ∃ q, StepR c p r q then h.choose else []
theorem stepS_eq {c : Int} {p : Bag} {r : Row} {q : Bag} (h : StepR c p r q) : stepS c p r = q := by
  unfold stepS
  rw [dif_pos ⟨q, h⟩]
  exact stepR_unique (Exists.choose_spec (⟨q, h⟩ : ∃ q, StepR c p r q)) h
noncomputable def nowT (c : Int) (b : Bag) (rows : List Row) : Bag := rows.foldl (stepS c) b
theorem nowT_snoc (c : Int) (b : Bag) (rows : List Row) (r : Row) : nowT c b (rows ++ [r]) = stepS c (nowT c b rows) r := by unfold nowT; rw [List.foldl_append]; rfl
end TP

namespace TP
open PySem PySem.Spec PyProof.Rows L2
/-! ### entries, actions and collectors on the heap -/
def RowO (K : PySem.W.Frag) (H : Hp) (c : Int) (v : V) : Row → Prop
  | .run n m => Dp K H v (pairD (n, m))
  | .sum qs => SumO K H v c qs
def RowsO (K : PySem.W.Frag) (H : Hp) (c : Int) (v : V) (rows : List Row) : Prop := ∃ T xs, v = .ref T ∧ SqT K H T xs ∧ All2 (RowO K H c) xs rows
def actW : Act → Str
  | .arrive _ _ => "arrive"
  | .merge _ => "merge"
  | .insert _ _ _ => "insert"
  | .remove _ => "remove"
  | .start _ => "start"
/-- the elements of an action; w: its Summary -/
def actX (w : V) : Act → List V
  | .arrive n m => [.str "arrive", .str n, .int m]
  | .merge _ => [.str "merge", w]
  | .insert i n m => [.str "insert", .int (i : Nat), .str n, .int m]
  | .remove i => [.str "remove", .int (i : Nat)]
  | .start _ => [.str "start", w]
def actS (K : PySem.W.Frag) (H : Hp) (c : Int) (w : V) : Act → Prop
  | .merge qs => SumO K H w c qs
  | .start qs => SumO K H w c qs
  | _ => True
def DeedO (K : PySem.W.Frag) (H : Hp) (c : Int) (v : V) (a : Act) : Prop := ∃ T w, v = .ref T ∧ H T = some (.tup (actX w a)) ∧ actS K H c w a
def StaO (K : PySem.W.Frag) (H : Hp) (c : Int) (v : V) (s : StA) : Prop := ∃ T B R, v = .ref T ∧ SqT K H T [B, R] ∧ SumO K H B c s.1 ∧ RowsO K H c R s.2
def EntO (K : PySem.W.Frag) (H : Hp) (c : Int) (v : V) (e : Act × StA) : Prop := ∃ T a s, v = .ref T ∧ SqT K H T [a, s] ∧ DeedO K H c a e.1 ∧ StaO K H c s e.2
def PastO (K : PySem.W.Frag) (H : Hp) (c : Int) (v : V) (past : List (Act × StA)) : Prop := ∃ T xs, v = .ref T ∧ SqT K H T xs ∧ All2 (EntO K H c) xs past
abbrev colFl (c : Int) (B R P : V) (busy : Bool) (att : Int) : List (Str × V) := [("capacity", .int c), ("begin", B), ("rows", R), ("past", P), ("busy", .bl busy), ("attempts", .int att)]
abbrev colF : List Str := ["capacity", "begin", "rows", "past", "busy", "attempts", "__bool__"]
structure ColO (K : PySem.W.Frag) (H : Hp) (a : Addr) (c : Int) (s : StA) (past : List (Act × StA)) (busy : Bool) (att : Int) (dx : Addr) (B R P : V) : Prop where
  ins : H a = some (.ins (He.ga K "Collector") dx (colFl c B R P busy att))
  beg : SumO K H B c s.1
  rows : RowsO K H c R s.2
  past : PastO K H c P past
section
variable {K : PySem.W.Frag} {H H' : Hp} {c : Int}
theorem rowO_c (s : SameC H H') {v : V} {r : Row} (h : RowO K H c v r) : RowO K H' c v r := by
  cases r with
  | run n m => exact dp_c s h
  | sum qs => exact sum_c s h
theorem rowsO_c (s : SameC H H') {v : V} {rs : List Row} (h : RowsO K H c v rs) : RowsO K H' c v rs := by
  obtain ⟨T, xs, rfl, h1, h2⟩ := h
  exact ⟨T, xs, rfl, sqt_c s h1, h2.imp fun _ _ => rowO_c s⟩
theorem actS_c (s : SameC H H') {w : V} {a : Act} (h : actS K H c w a) : actS K H' c w a := by
  cases a with
  | merge qs => exact sum_c s h
  | start qs => exact sum_c s h
  | _ => trivial
theorem deedO_c (s : SameC H H') {v : V} {a : Act} (h : DeedO K H c v a) : DeedO K H' c v a := by
  obtain ⟨T, w, rfl, h1, h2⟩ := h
  exact ⟨T, w, rfl, tup_c s h1, actS_c s h2⟩
theorem staO_c (s : SameC H H') {v : V} {a : StA} (h : StaO K H c v a) : StaO K H' c v a := by
  obtain ⟨T, B, R, rfl, h1, h2, h3⟩ := h
  exact ⟨T, B, R, rfl, sqt_c s h1, sum_c s h2, rowsO_c s h3⟩
theorem entO_c (s : SameC H H') {v : V} {e : Act × StA} (h : EntO K H c v e) : EntO K H' c v e := by
  obtain ⟨T, a, b, rfl, h1, h2, h3⟩ := h
  exact ⟨T, a, b, rfl, sqt_c s h1, deedO_c s h2, staO_c s h3⟩
theorem pastO_c (s : SameC H H') {v : V} {p : List (Act × StA)} (h : PastO K H c v p) : PastO K H' c v p := by
  obtain ⟨T, xs, rfl, h1, h2⟩ := h
  exact ⟨T, xs, rfl, sqt_c s h1, h2.imp fun _ _ => entO_c s⟩
section
variable {a dx : Addr} {s : StA} {past : List (Act × StA)} {busy : Bool} {att : Int} {B R P : V} {mg : Str → Option Value} {Q : VK}
theorem ColO.same (h : ColO K H a c s past busy att dx B R P) (t : Same H H') : ColO K H' a c s past busy att dx B R P := ⟨t _ _ h.ins, sum_same t h.beg, rowsO_c (SameC.of t) h.rows, pastO_c (SameC.of t) h.past⟩
theorem ColO.ch (h : ColO K H a c s past busy att dx B R P) (t : SameB a H H') : SameC H H' := SameC.ofB t h.ins rfl
theorem w_colCap (cl : ClsF K mg "Collector" colF) (h : ColO K H a c s past busy att dx B R P) (q : Q (.int c) H) : FldC K "capacity" (.ref a) H Q := w_fldc cl (by decide) h.ins rfl q
theorem w_colBeg (cl : ClsF K mg "Collector" colF) (h : ColO K H a c s past busy att dx B R P) (q : Q B H) : FldC K "begin" (.ref a) H Q := w_fldc cl (by decide) h.ins rfl q
theorem w_colRows (cl : ClsF K mg "Collector" colF) (h : ColO K H a c s past busy att dx B R P) (q : Q R H) : FldC K "rows" (.ref a) H Q := w_fldc cl (by decide) h.ins rfl q
theorem w_colPast (cl : ClsF K mg "Collector" colF) (h : ColO K H a c s past busy att dx B R P) (q : Q P H) : FldC K "past" (.ref a) H Q := w_fldc cl (by decide) h.ins rfl q
theorem w_colBusy (cl : ClsF K mg "Collector" colF) (h : ColO K H a c s past busy att dx B R P) (q : Q (.bl busy) H) : FldC K "busy" (.ref a) H Q := w_fldc cl (by decide) h.ins rfl q
theorem w_colSet {f : Str} {y : V} {k : Hp → Prop} (cl : ClsF K mg "Collector" colF) (hf : f ∈ colF) (h : H a = some (.ins (He.ga K "Collector") dx (colFl c B R P busy att))) (q : k (upd H a (.ins (He.ga K "Collector") dx (putF f y (colFl c B R P busy att))))) : SetC K f (.ref a) y H k := w_setc cl hf h (by show 6 < 1000; decide) q
end
/-- a state is new, the rest stands as it did -/
theorem ColO.put {a dx : Addr} {s s' : StA} {past past' : List (Act × StA)} {busy busy' : Bool} {att att' : Int} {B R P B' R' P' : V} (h : ColO K H a c s past busy att dx B R P) (t : SameB a H H') (e : H' a = some (.ins (He.ga K "Collector") dx (colFl c B' R' P' busy' att')))
    (hb : SumO K H B' c s'.1) (hr : RowsO K H c R' s'.2) (hp : PastO K H c P' past') : ColO K H' a c s' past' busy' att' dx B' R' P' := ⟨e, sum_c (h.ch t) hb, rowsO_c (h.ch t) hr, pastO_c (h.ch t) hp⟩
end
end TP

namespace TP
open PySem PySem.Spec PyProof.Rows L2
/-! ### a tuple beside the empty tuple -/
def rNeTE (K : PySem.W.Frag) : R2 := fun x y H Q => ∃ a b xs, x = .ref a ∧ y = .ref b ∧ SqT K H a xs ∧ SqT K H b [] ∧ Q (.bl (!xs.isEmpty)) H
def rEqTE (K : PySem.W.Frag) : R2 := fun x y H Q => ∃ a b xs, x = .ref a ∧ y = .ref b ∧ SqT K H a xs ∧ SqT K H b [] ∧ Q (.bl xs.isEmpty) H
section
variable {X : Cx}
theorem op_neTE (hu : X.A.units + 66 < cLine) : OpR X (compareOp .NotEq) (rNeTE X.K) := by
  intro pins s σ H x y v u Q I rx ry h
  obtain ⟨a, b, xs, e1, e2, ha, hb, q⟩ := h
  subst e1 e2
  cases (show v = Value.ref a from rx)
  cases (show u = Value.ref b from ry)
  obtain ⟨us, r1, p1, _⟩ := I.tuple ha
  obtain ⟨ws, r2, p2, _⟩ := I.tuple hb
  cases r2
  refine SeqAt.RcNeAt.tuples (e := fun _ => true) p1 p2 (by omega) (fun j h1 h2 => absurd h2 (by simp)) X.prog X.w _ _ ?_
  refine ⟨.bl (!xs.isEmpty), H, I, ?_, q⟩
  cases xs with
  | nil => cases r1; rfl
  | cons z r => cases r1; rfl
theorem op_eqTE (hu : X.A.units + 66 < cLine) : OpR X (compareOp .Eq) (rEqTE X.K) := by
  intro pins s σ H x y v u Q I rx ry h
  obtain ⟨a, b, xs, e1, e2, ha, hb, q⟩ := h
  subst e1 e2
  cases (show v = Value.ref a from rx)
  cases (show u = Value.ref b from ry)
  obtain ⟨us, r1, p1, _⟩ := I.tuple ha
  obtain ⟨ws, r2, p2, _⟩ := I.tuple hb
  cases r2
  refine SeqAt.RcAt.tuples (e := fun _ => true) p1 p2 (by omega) (fun j h1 h2 => absurd h2 (by simp)) X.prog X.w _ _ ?_
  refine ⟨.bl xs.isEmpty, H, I, ?_, q⟩
  cases xs with
  | nil => cases r1; rfl
  | cons z r => cases r1; rfl
theorem k_neTE (K : PySem.W.Frag) (hu : X.A.units + 66 < cLine) (h : X.K = K := by rfl) : OpR X (compareOp .NotEq) (rNeTE K) := by subst h; exact op_neTE hu
theorem k_eqTE (K : PySem.W.Frag) (hu : X.A.units + 66 < cLine) (h : X.K = K := by rfl) : OpR X (compareOp .Eq) (rEqTE K) := by subst h; exact op_eqTE hu
end
theorem ty_tup {K : PySem.W.Frag} {H : Hp} {a : Addr} {xs : List V} (h : SqT K H a xs) : TyX K H (.ref a) (.type "tuple") := by
  rcases h with (h | ⟨o, h⟩) | ⟨o, its, n, h, c, _⟩
  · exact .base (.tup h)
  · exact .fTuple h
  · exact .kTuple h c
theorem w_isiTup {K : PySem.W.Frag} {H : Hp} {Q : VK} {a : Addr} {xs : List V} {T : String} {b : Bool} (h : SqT K H a xs) (e : kitB "tuple" T = some b) (q : Q (.bl b) H) : rIsi K [.ref a, .ty T] H Q := w_isi (ty_tup h) e q
theorem w_eqTE {K : PySem.W.Frag} {H : Hp} {Q : VK} {a b : Addr} {xs : List V} (h1 : SqT K H a xs) (h2 : SqT K H b []) (h : Q (.bl xs.isEmpty) H) : rEqTE K (.ref a) (.ref b) H Q := ⟨a, b, xs, rfl, rfl, h1, h2, h⟩
theorem w_neTE {K : PySem.W.Frag} {H : Hp} {Q : VK} {a b : Addr} {xs : List V} (h1 : SqT K H a xs) (h2 : SqT K H b []) (h : Q (.bl (!xs.isEmpty)) H) : rNeTE K (.ref a) (.ref b) H Q := ⟨a, b, xs, rfl, rfl, h1, h2, h⟩
end TP

namespace TP
open PySem PySem.Spec PyProof.Rows L2
theorem sameB_upd {a : Addr} {H : Hp} {o : HO} : SameB a H (upd H a o) := fun z u n e => (upd_ne n).trans e
theorem SameB.tr {a : Addr} {H H1 H2 : Hp} (x : SameB a H H1) (y : SameB a H1 H2) : SameB a H H2 := fun z u n e => y z u n (x z u n e)
theorem SameB.ofS {a : Addr} {H H1 : Hp} (x : Same H H1) : SameB a H H1 := fun z u _ e => x z u e
theorem col_look {m : Str} {c : Int} {B R P : V} {busy : Bool} {att : Int} (h : m ∉ (["capacity", "begin", "rows", "past", "busy", "attempts"] : List Str)) : (colFl c B R P busy att).lookup m = none := by
  simp only [List.mem_cons, List.not_mem_nil, or_false, not_or] at h
  obtain ⟨h1, h2, h3, h4, h5, h6⟩ := h
  have e : ∀ x : Str, ¬ m = x → (m == x) = false := fun x hx => beq_eq_false_iff_ne.mpr hx
  simp only [colFl, List.lookup_cons, e _ h1, e _ h2, e _ h3, e _ h4, e _ h5, e _ h6, List.lookup_nil]
theorem w_colM {K : PySem.W.Frag} {H : Hp} {c : Int} {a dx : Addr} {s : StA} {past : List (Act × StA)} {busy : Bool} {att : Int} {B R P : V} {m : Str} {p : Prop} (h : ColO K H a c s past busy att dx B R P) (hm : m ∉ (["capacity", "begin", "rows", "past", "busy", "attempts"] : List Str)) (q : p) : MtC (He.ga K "Collector") m (.ref a) H p := w_mtc h.ins (col_look hm) q
/-- data do not see the objects -/
def SameD (H H' : Hp) : Prop := ∀ b u, H b = some u → (∀ C dx fl, u ≠ .ins C dx fl) → H' b = some u
theorem sql_d {K : PySem.W.Frag} {H H' : Hp} {a : Addr} {xs : List V} (s : SameD H H') (h : SqL K H a xs) : SqL K H' a xs := by
  rcases h with (h | ⟨o, h⟩) | h
  · exact .inl (.inl (s _ _ h nofun))
  · exact .inl (.inr ⟨o, s _ _ h nofun⟩)
  · exact .inr h
theorem sqt_d {K : PySem.W.Frag} {H H' : Hp} {a : Addr} {xs : List V} (s : SameD H H') (h : SqT K H a xs) : SqT K H' a xs := by
  rcases h with (h | ⟨o, h⟩) | h
  · exact .inl (.inl (s _ _ h nofun))
  · exact .inl (.inr ⟨o, s _ _ h nofun⟩)
  · exact .inr h
mutual
theorem dp_d {K : PySem.W.Frag} {H H' : Hp} (s : SameD H H') : ∀ {v : V} {d : PyData}, Dp K H v d → Dp K H' v d
  | _, _, .non => .non
  | _, _, .bl b => .bl b
  | _, _, .int i => .int i
  | _, _, .str x => .str x
  | _, _, .lst h r => .lst (sql_d s h) (dps_d s r)
  | _, _, .tup h r => .tup (sqt_d s h) (dps_d s r)
theorem dps_d {K : PySem.W.Frag} {H H' : Hp} (s : SameD H H') : ∀ {vs : List V} {ds : List PyData}, DpAll K H vs ds → DpAll K H' vs ds
  | _, _, .nil => .nil
  | _, _, .cons h r => .cons (dp_d s h) (dps_d s r)
end
theorem SameD.put {H : Hp} {a C dx : Addr} {fl : List (Str × V)} {o : HO} (e : H a = some (.ins C dx fl)) : SameD H (upd H a o) := fun b u h n => (upd_ne (fun z => by
  rw [z, e] at h
  cases h
  exact n _ _ _ rfl)).trans h
theorem sum_putC {K : PySem.W.Frag} {H : Hp} {a C dx : Addr} {fl : List (Str × V)} {o : HO} {v : V} {c : Int} {ps : Bag} (h : SumO K H v c ps) (e : H a = some (.ins C dx fl)) (hf : ∀ b : V, fl ≠ ([("capacity", .int c), ("counts", b)] : List (Str × V))) : SumO K (upd H a o) v c ps := by
  obtain ⟨na, nx, b, rfl, h1, h2⟩ := h
  have hne : na ≠ a := fun z => by
    subst z
    rw [e] at h1
    have := HO.ins.inj (Option.some.inj h1)
    exact hf b this.2.2
  exact ⟨na, nx, b, rfl, (upd_ne hne).trans h1, dp_d (SameD.put e) h2⟩
theorem w_slG {K : PySem.W.Frag} {H : Hp} {Q : VK} {a : Addr} {xs : List V} {lo hi : Option Int} (hs : SqT K H a xs) (k : ∀ c H', Same H H' → SqT K H' c (cutL xs lo hi) → Q (.ref c) H') : rSlA K (.ref a) lo hi H Q := by
  refine ⟨a, xs, rfl, hs, fun e => ?_, fun _ p hp => ?_⟩
  · refine k _ _ (Same.refl _) ?_
    have : cutL xs lo hi = xs := by
      unfold cutL
      rw [e.1, e.2]
      simp
    rw [this]; exact hs
  · exact k _ _ (same_new hp) (SqT.of upd_same)
/-! ### the current counts stay small -/
theorem stepR_le {c : Int} {p q : Bag} {r : Row} (hp : SumV c p) (hr : RowV c r) (h : StepR c p r q) : sumC q ≤ sumC p + 10 ^ 32 := by
  cases r with
  | run n m =>
    obtain ⟨_, h2⟩ := h
    obtain ⟨_, h3, h4⟩ := hr
    rw [sumC_perm h2]
    have := arr_sum_le (n := n) hp.arr h3
    omega
  | sum qs =>
    obtain ⟨_, h2⟩ := h
    obtain ⟨h3, h4⟩ := hr
    have c1 := hp.c1
    obtain ⟨k, rfl⟩ := Int.eq_ofNat_of_zero_le (show 0 ≤ c by omega)
    obtain ⟨x, hx, _, h5⟩ := merge_facts (fun a ha => by
      rcases List.mem_append.mp ha with ha | ha
      · exact hp.ok.pos a ha
      · exact h3.ok.pos a ha) h2
    rw [sumC_app] at h5
    have : 0 ≤ x * ((k + 1 : Nat) : Int) := Int.mul_nonneg hx (by omega)
    omega
theorem step_all {c : Int} {p q : Bag} {r : Row} {i : Nat} (hr : RowV c r) (hp : SumV c p) (hs : sumC p ≤ 10 ^ 32 + (i : Int) * 10 ^ 32) (h : StepR c p r q) : stepS c p r = q ∧ SumV c q ∧ sumC q ≤ 10 ^ 32 + ((i + 1 : Nat) : Int) * 10 ^ 32 := by
  refine ⟨stepS_eq h, ?_, ?_⟩
  · cases r <;> exact h.1
  · have := stepR_le hp hr h
    omega
theorem nowT_take {c : Int} {b : Bag} {rows : List Row} {i : Nat} {r : Row} (e : rows[i]? = some r) : nowT c b (rows.take (i + 1)) = stepS c (nowT c b (rows.take i)) r := by
  rw [List.take_succ, e]
  exact nowT_snoc _ _ _ _
/-! ### the runs among the entries -/
def rowRun : Row → Option (Str × Int)
  | .run n m => some (n, m)
  | .sum _ => none
def runsR (rows : List Row) : Bag := rows.filterMap rowRun
theorem runsR_len (rows : List Row) : (runsR rows).length ≤ rows.length := List.length_filterMap_le _ _
theorem runsR_mem {c : Int} {rows : List Row} (h : ∀ r ∈ rows, RowV c r) : ∀ p ∈ runsR rows, isName p.1 = true ∧ 1 ≤ p.2 ∧ p.2 ≤ 10 ^ 32 := fun p hp => by
  obtain ⟨r, hr, e⟩ := List.mem_filterMap.mp hp
  have hv := h r hr
  cases r with
  | run n m => cases e; exact hv
  | sum qs => cases e
end TP

namespace TP
open PySem PySem.Spec PyProof.Rows L2
/-! ### a walk over a tuple or a list -/
section
variable {X : Cx} {tg : Expr}
def OnQ (K : PySem.W.Frag) (R : It → Hp → Prop) (v : V) (H : Hp) : Prop := OnT K R v H ∨ OnL K R v H
def iSeq (K : PySem.W.Frag) (tl : TE) : TI := fun σ H R => tl σ H (OnQ K R)
theorem pi_seq {l : Expr} {tl : TE} (hl : PE X l tl) : PI X tg l (iSeq X.K tl) := by
  refine ⟨fun pins s σ H R I h => ?_⟩
  refine thn (hl.run pins s σ H _ I h) fun v s1 ⟨x, H1, I1, r1, q1⟩ => ?_
  rcases q1 with ⟨a, e, ⟨xs, hq⟩, q⟩ | ⟨a, e, ⟨xs, hq⟩, q⟩
  · subst e
    cases r1
    obtain ⟨its, rv, p, hz⟩ := I1.tuple hq
    refine wpAny_pyIter_tuple (show s1.heap.IsTuple a its.toArray from p) ?_
    refine ⟨s1.heap.objs.size, [s1.heap.objs.size], _, _, H1, rfl, I1.kept (t' := s1.toks) fun b o e => Heap.get?_push_of_some _ e, turn_tuple a _, ⟨_, Heap.get?_push_size _ rfl, rfl, rfl⟩, fun b hb => ?_, q⟩
    have e : b = s1.heap.objs.size := by simpa using hb
    subst e
    exact I1.fpOk (Nat.le_refl _) (I1.hok.fresh (Nat.le_refl _))
  · subst e
    cases r1
    obtain ⟨its, rv, p, hz⟩ := I1.list hq
    refine wpAny_pyIter_list p.isList ?_
    refine ⟨s1.heap.objs.size, [s1.heap.objs.size], _, _, H1, rfl, I1.kept (t' := s1.toks) fun b o e => Heap.get?_push_of_some _ e, turn_list a _, ⟨_, Heap.get?_push_size _ rfl, rfl, rfl⟩, fun b hb => ?_, q⟩
    have e : b = s1.heap.objs.size := by simpa using hb
    subst e
    exact I1.fpOk (Nat.le_refl _) (I1.hok.fresh (Nat.le_refl _))
theorem k_iSeq (K : PySem.W.Frag) {e : Expr} {te : TE} (hl : PE X e te) (h : X.K = K := by rfl) : PI X tg e (iSeq K te) := by subst h; exact pi_seq hl
end
theorem w_iSeq {K : PySem.W.Frag} {te : TE} {σ : L2.St} {H : Hp} {R : It → Hp → Prop} (h : te σ H (OnQ K R)) : iSeq K te σ H R := h
end TP

namespace TP
open PySem PySem.Spec PyProof.Rows L2
/-! ### an index into a list or a tuple -/
def rIxQ (K : PySem.W.Frag) : R2 := fun x y H Q => rIxT K x y H Q ∨ rIxL K x y H Q
theorem k_ixQ {X : Cx} (K : PySem.W.Frag) (hK : X.K = K := by rfl) : IxR X (rIxQ K) := by
  subst hK
  intro value slice pins s σ H x y v u Q I rx ry h hs
  rcases h with h | h
  · exact k_ixT X.K rfl value slice pins s σ H x y v u Q I rx ry h hs
  · exact k_ixL X.K rfl value slice pins s σ H x y v u Q I rx ry h hs
theorem w_ixQT {K : PySem.W.Frag} {H : Hp} {Q : VK} {a : Addr} {xs : List V} {i : Int} {v : V} (h : SqT K H a xs) (e : atI xs i = some v) (q : Q v H) : rIxQ K (.ref a) (.int i) H Q := .inl (w_ixT h e q)
theorem w_ixQL {K : PySem.W.Frag} {H : Hp} {Q : VK} {a : Addr} {xs : List V} {i : Int} {v : V} (h : SqL K H a xs) (e : atI xs i = some v) (q : Q v H) : rIxQ K (.ref a) (.int i) H Q := .inr (w_ixL h e q)
theorem tabOf_nd (ps : Bag) : (keys (tabOf ps)).Nodup := by show ((tabOf ps).map (·.1)).Nodup; rw [tabOf_keys]; exact namesOf_nodup _
theorem merge_okV {c : Int} {p qs r : Bag} (hp : SumV c p) (hq : SumV c qs) (h : MergeR c p qs r) : SumV c r := by
  have hpos : ∀ a ∈ p ++ qs, 1 ≤ a.2 := fun a ha => by
    rcases List.mem_append.mp ha with ha | ha
    · exact hp.ok.pos a ha
    · exact hq.ok.pos a ha
  have c1 := hp.c1
  obtain ⟨k, rfl⟩ := Int.eq_ofNat_of_zero_le (show 0 ≤ c by omega)
  have hl := merge_len hpos h
  obtain ⟨x, hx, hcan⟩ := h
  refine ⟨hp.c1, hp.c8, hcan.ok fun a ha => ?_, by omega⟩
  obtain ⟨hm, _⟩ := merge_names (by omega) hpos ⟨x, hx, hcan⟩ a ha
  obtain ⟨z, hz, e⟩ := List.mem_map.mp hm
  rw [← e]
  rcases List.mem_append.mp hz with hz | hz
  · exact hp.ok.nam z hz
  · exact hq.ok.nam z hz
theorem arr_can {c : Int} {p q : Bag} {n : Str} {m : Int} (hp : SumV c p) (hn : isName n = true) (hm : 1 ≤ m) (hcan : IsCan (fun x => posI (getT (arrT c p n m).1 x)) q) (hmem : ∀ a ∈ q, a.1 ∈ (arrT c p n m).1.map (·.1)) : SumV c q ∧ q.Perm (arrT c p n m).1 := by
  refine can_sum (arrT_ok hp.arr hm) hp.c8 hcan fun a ha => ?_
  rcases arrT_keys (hmem a ha) with h | h
  · obtain ⟨z, hz, e⟩ := List.mem_map.mp h
    rw [← e]; exact hp.ok.nam z hz
  · rw [h]; exact hn
theorem tab_pos {t : Bag} (h : TabOk t) : ∀ n ∈ t.map (·.1), 0 < getT t n := fun n hn => by
  obtain ⟨z, hz, e⟩ := List.mem_map.mp hn
  have := h.pos z hz
  rw [← e, getT_mem h.nd hz]
  omega
/-! ### what the law keeps: data -/
def rowD : Row → PyData
  | .run n m => pairD (n, m)
  | .sum qs => .list [bagD qs]
def stD (s : StA) : PyData := .tuple [bagD s.1, .list (s.2.map rowD)]
def actD : Act → PyData
  | .arrive n m => .tuple [.str "arrive", .str n, .int m]
  | .merge qs => .tuple [.str "merge", .list [bagD qs]]
  | .insert i n m => .tuple [.str "insert", .int (i : Nat), .str n, .int m]
  | .remove i => .tuple [.str "remove", .int (i : Nat)]
  | .start qs => .tuple [.str "start", .list [bagD qs]]
theorem st_inv {K : PySem.W.Frag} {H : Hp} {v : V} {s : StA} (h : Dp K H v (stD s)) : ∃ T b l xs, v = .ref T ∧ SqT K H T [b, .ref l] ∧ Dp K H b (bagD s.1) ∧ SqL K H l xs ∧ DpAll K H xs (s.2.map rowD) := by
  obtain ⟨T, ys, rfl, hT, hys⟩ := dp_tup_inv h
  cases hys with
  | cons h1 r =>
    cases r with
    | cons h2 r2 =>
      cases r2
      obtain ⟨l, xs, rfl, hl, hx⟩ := dp_lst_inv h2
      exact ⟨T, _, l, xs, rfl, hT, h1, hl, hx⟩
theorem st_mk {K : PySem.W.Frag} {H : Hp} {T l : Addr} {b : V} {xs : List V} {s : StA} (hT : SqT K H T [b, .ref l]) (hb : Dp K H b (bagD s.1)) (hl : SqL K H l xs) (hx : DpAll K H xs (s.2.map rowD)) : Dp K H (.ref T) (stD s) := .tup hT (.cons hb (.cons (.lst hl hx) .nil))
theorem sum_inv {K : PySem.W.Frag} {H : Hp} {v : V} {qs : Bag} (h : Dp K H v (.list [bagD qs])) : ∃ l b, v = .ref l ∧ SqL K H l [b] ∧ Dp K H b (bagD qs) := by
  obtain ⟨l, xs, rfl, hl, hx⟩ := dp_lst_inv h
  cases hx with
  | cons h1 r => cases r; exact ⟨l, _, rfl, hl, h1⟩
end TP

namespace TP
open PySem PySem.Spec PyProof.Rows L2
/-! ### comprehensions of summaries -/
section
variable {J : It} {n : Nat} {G : Hp → Prop} {Y : Nat → Hp → V → Hp → Prop} {g : TG} {te : TE} {vs : List Nat} {σ : L2.St} {H1 : Hp} {D : Addr} {Q : VK}
end
/-! ### making and methods inside comprehensions: the written part told -/
section
variable {X : Cx} {CX : CXT} {k n : Nat} {C m q : Str} {st : Stmt} {dvs : List V} {ps ks : List Str} {js : List Nat} {sp : Sp} {E : XK} {p pos apos : Pos} {e o : Expr} {es : List Expr} {kws : List Keyword} {ta : TE} {t tk : TA} {fs : List Str}
theorem k_mk (K : PySem.W.Frag) (c : ClsF X.K X.mg C fs) (F : HasM X.prog X.w X.K X.mg X.base CX k C "__init__" q st dvs ps sp) (hb : BindJ "__init__" q st ps dvs.length (n + 1) [] js) (hr : Room (k + 1) X.A) (hg : X.A.guards = some []) (hgl : Gl X C) (hx : Passes CX X E)
    (ha : PA X (e :: es) t) (hdb : (C == ("__debug__" : Str)) = false := by decide) (he : starEach (e :: es) X.env = (false, eval e X.env) :: starEach es X.env := by rfl) (hpl : (backTo pos (starEach es X.env)).any (·.1) = false := by rfl) (hK : X.K = K := by rfl) :
    PE X (.Call (.Name C p) (e :: es) [] pos) (tMkN (He.ga K C) sp n 0 js dvs E t tNil) := by
  subst hK
  exact pe_mk c F hb hr hg hgl hx ha hdb he hpl
theorem k_mt0 (K : PySem.W.Frag) {pl : Sem Bool} (c : ClsF X.K X.mg C fs) (F : HasM X.prog X.w X.K X.mg X.base CX k C m q st dvs ps sp) (hb : BindJ m q st ps dvs.length 1 [] js) (hr : Room k X.A) (hg : X.A.guards = some []) (hx : Passes CX X E) (ho : PE X o ta)
    (ht : eval (.Call (.Attribute o m apos) [] [] pos) X.env = (do
      let ov ← eval o X.env
      standAt apos.atName
      let (f, first) ← holding [ov] (getMethod ov m pl)
      callWith pos f first (backTo pos (starEach [] X.env)) (backToKw pos (keywordEach [] X.env))) := by rfl) (hK : X.K = K := by rfl) :
    PE X (.Call (.Attribute o m apos) [] [] pos) (tMtN (He.ga K C) m sp 0 0 js dvs E ta tNil tNil) := by
  subst hK
  exact pe_mt0 c F hb hr hg hx ho ht
end
section
variable {J : It} {n : Nat} {G : Hp → Prop} {Y : Nat → Hp → V → Hp → Prop} {g : TG} {te : TE} {vs : List Nat} {σ : L2.St} {H1 : Hp} {D : Addr} {Q : VK}
/-- a comprehension whose elements keep something told of the heap -/
theorem lc_obj (w : Walk J n G Y) (hn : n ≤ 100000) (R : Nat → V → Hp → Prop) (hR1 : ∀ j y H H', Same H H' → R j y H → R j y H') (hR2 : ∀ j y H D xs ys, H D = some (.lst xs) → R j y H → R j y (upd H D (.lst ys))) (hD : H1 D = none) (hG : ∀ H, Same H1 H → G H)
    (hs : ∀ i x H H', i < n → Same H1 H → Y i H x H' → ∀ Qy : VK, (∀ y H4, Same H H4 → R i y H4 → Qy y H4) → g x (wipe σ vs) H' fun σ2 H2 => wipe σ2 vs = wipe σ vs ∧ te σ2 H2 Qy)
    (hd : ∀ acc H, Same H1 H → H D = some (.lst acc) → acc.length = n → (∀ i y, acc[i]? = some y → R i y H) → Q (.ref D) H)
    (mono : ∀ {x σ H} {Q Q' : L2.St → Hp → Prop}, (∀ σ H, Q σ H → Q' σ H) → g x σ H Q → g x σ H Q') : LcOk J g tYes te vs σ H1 D Q := by
  let Acc : Nat → List V → Hp → Prop := fun i acc H => acc.length = i ∧ ∀ (j : Nat) (y : V), acc[j]? = some y → R j y H
  refine lc_go w Acc hD hG ⟨rfl, fun j y e => by simp at e⟩ (fun i x H H' acc hi s e l a hy => ?_) fun acc H s e _ a => hd acc H s e a.1 a.2
  refine mono (fun σ2 H2 q => ⟨q.1, ?_⟩) (hs i x H H' hi s hy (fun y H4 => LcY H1 D Acc i y H4) fun y H4 s4 fy => ?_)
  · exact w_yes (w_iteT q.2)
  · have e4 := s4 _ _ e
    refine lc_y (Acc := Acc) hD (s.trans s4) e4 l (by omega) ⟨by simp [a.1], fun j z ej => ?_⟩
    by_cases q : j < acc.length
    · rw [List.getElem?_append_left q] at ej
      exact hR2 _ _ _ _ _ _ e4 (hR1 _ _ _ _ s4 (a.2 j z ej))
    · rw [List.getElem?_append_right (Nat.le_of_not_lt q)] at ej
      have h0 : j - acc.length = 0 := by
        obtain ⟨h1, _⟩ := List.getElem?_eq_some_iff.mp ej
        simp at h1; omega
      rw [h0] at ej
      cases ej
      have ej2 : j = i := by have := a.1; omega
      rw [ej2]
      exact hR2 _ _ _ _ _ _ e4 fy
end
theorem sum_lst {K : PySem.W.Frag} {H : Hp} {R : Addr} {xs ys : List V} {v : V} {c : Int} {ps : Bag} (hR : H R = some (.lst xs)) (h : SumO K H v c ps) : SumO K (upd H R (.lst ys)) v c ps := by
  obtain ⟨a, dx, b, rfl, h1, h2⟩ := h
  have hne : a ≠ R := fun z => by rw [z, hR] at h1; cases h1
  exact ⟨a, dx, b, rfl, (upd_ne hne).trans h1, dp_flat (SameT.lst hR) h2 (flat_bag ps)⟩
/-- the elements of an action that the law keeps -/
def ActY (K : PySem.W.Frag) (H : Hp) (ys : List V) : Act → Prop
  | .arrive n m => ys = [.str "arrive", .str n, .int m]
  | .merge qs => ∃ l, ys = [.str "merge", .ref l] ∧ Dp K H (.ref l) (.list [bagD qs])
  | .insert i n m => ys = [.str "insert", .int (i : Nat), .str n, .int m]
  | .remove i => ys = [.str "remove", .int (i : Nat)]
  | .start qs => ∃ l, ys = [.str "start", .ref l] ∧ Dp K H (.ref l) (.list [bagD qs])
theorem act_inv {K : PySem.W.Frag} {H : Hp} {v : V} {a : Act} (h : Dp K H v (actD a)) : ∃ W ys, v = .ref W ∧ SqT K H W ys ∧ ActY K H ys a ∧ ys[0]? = some (.str (actW a)) := by
  cases a with
  | arrive n m =>
    obtain ⟨W, ys, rfl, hW, hx⟩ := dp_tup_inv h
    obtain _ | ⟨h1, _ | ⟨h2, _ | ⟨h3, r⟩⟩⟩ := hx
    cases r; cases h1; cases h2; cases h3
    exact ⟨W, _, rfl, hW, rfl, rfl⟩
  | insert i n m =>
    obtain ⟨W, ys, rfl, hW, hx⟩ := dp_tup_inv h
    obtain _ | ⟨h1, _ | ⟨h2, _ | ⟨h3, _ | ⟨h4, r⟩⟩⟩⟩ := hx
    cases r; cases h1; cases h2; cases h3; cases h4
    exact ⟨W, _, rfl, hW, rfl, rfl⟩
  | remove i =>
    obtain ⟨W, ys, rfl, hW, hx⟩ := dp_tup_inv h
    obtain _ | ⟨h1, _ | ⟨h2, r⟩⟩ := hx
    cases r; cases h1; cases h2
    exact ⟨W, _, rfl, hW, rfl, rfl⟩
  | merge qs =>
    obtain ⟨W, ys, rfl, hW, hx⟩ := dp_tup_inv h
    obtain _ | ⟨h1, _ | ⟨h2, r⟩⟩ := hx
    cases r; cases h1
    obtain ⟨l, b, rfl, _⟩ := sum_inv h2
    exact ⟨W, _, rfl, hW, ⟨l, rfl, h2⟩, rfl⟩
  | start qs =>
    obtain ⟨W, ys, rfl, hW, hx⟩ := dp_tup_inv h
    obtain _ | ⟨h1, _ | ⟨h2, r⟩⟩ := hx
    cases r; cases h1
    obtain ⟨l, b, rfl, _⟩ := sum_inv h2
    exact ⟨W, _, rfl, hW, ⟨l, rfl, h2⟩, rfl⟩
theorem cutV_drop {xs : List V} {k : Nat} : cutV xs (some (k : Int)) none = xs.drop k := cutL_lo
/-- the law's state: its list is a list of its own -/
def StL (K : PySem.W.Frag) (H : Hp) (v : V) (s : StA) : Prop := ∃ T b l xs, v = .ref T ∧ SqT K H T [b, .ref l] ∧ Dp K H b (bagD s.1) ∧ H l = some (.lst xs) ∧ DpAll K H xs (s.2.map rowD)
theorem StL.dp {K : PySem.W.Frag} {H : Hp} {v : V} {s : StA} (h : StL K H v s) : Dp K H v (stD s) := by
  obtain ⟨T, b, l, xs, rfl, h1, h2, h3, h4⟩ := h
  exact st_mk h1 h2 (SqL.of h3) h4
theorem StL.c {K : PySem.W.Frag} {H H' : Hp} {v : V} {s : StA} (t : SameC H H') (h : StL K H v s) : StL K H' v s := by
  obtain ⟨T, b, l, xs, rfl, h1, h2, h3, h4⟩ := h
  exact ⟨T, b, l, xs, rfl, sqt_c t h1, dp_c t h2, lst_c t h3, dps_c t h4⟩
theorem StL.same {K : PySem.W.Frag} {H H' : Hp} {v : V} {s : StA} (h : StL K H v s) (t : Same H H') : StL K H' v s := h.c (SameC.of t)
/-- the name that a run of an action brings -/
def actN : Act → List Str
  | .arrive n _ => [n]
  | .insert _ n _ => [n]
  | _ => []
end TP

namespace TP
open PySem PySem.Spec PyProof.Rows L2 LamX
/-! ### repr of data, of lists and tuples in which Summaries stand, and of a Summary -/
def rReprU (K : PySem.W.Frag) (C : Str) (sp : Sp) (js : List Nat) : List V → Hp → VK → Prop := fun xs H Q => rReprV K (OwnR K C sp js) xs H Q ∨ rStrO (He.ga K C) sp js E0 xs H Q
theorem k_reprU {X : Cx} {k : Nat} (K : PySem.W.Frag) {C q : Str} {st : Stmt} {ps : List Str} {sp : Sp} {js : List Nat} (F : HasMA X.prog X.w K X.mg X.base C8.CX0 k C "__repr__" q st [] ps sp) (hb : BindJ "__repr__" q st ps 0 1 [] js) (hr : Room (k + 7) X.A) (hg : X.A.guards = some []) (hu : X.A.units + 64 < cLine) (hK : X.K = K := by rfl) : CallR X (.builtin "repr") (rReprU K C sp js) := by
  intro pins s σ H xs us Q I r h
  rcases h with h | h
  · exact k_reprV K F hb hr hg hu hK pins s σ H xs us Q I r h
  · exact s_repr K F.hasM hb (hr.mono (by omega)) hg pass0 hK pins s σ H xs us Q I r h
theorem w_reprUd {K : PySem.W.Frag} {C : Str} {sp : Sp} {js : List Nat} {H : Hp} {Q : VK} {v : V} {d : PyData} (h : Dx K H v d) (s : ShowsX d) (q : Q (.str d.shown) H) : rReprU K C sp js [v] H Q := .inl (w_reprVd h s q)
theorem w_reprUo {K : PySem.W.Frag} {C : Str} {sp : Sp} {js : List Nat} {H : Hp} {Q : VK} {a : Addr} {l : List V} {t : Str} {d : Nat} (h : Sw K (OwnR K C sp js) H (.ref a) t d) (hd : d ≤ 5) (ha : H a = some (.lst l) ∨ SqT K H a l) (ht : t.length ≤ 1000000) (q : ∀ H', Same H H' → Q (.str t) H') : rReprU K C sp js [.ref a] H Q := .inl (w_reprVo h hd ha ht q)
theorem w_reprUs {K : PySem.W.Frag} {C : Str} {sp : Sp} {js : List Nat} {H : Hp} {Q : VK} {v : V} (h : rStrO (He.ga K C) sp js E0 [v] H Q) : rReprU K C sp js [v] H Q := .inr h
end TP

/-! zip of a tuple and a list -/
namespace TP
open PySem PySem.Spec PyProof.Rows L2
/-- such a zip at work: k turns are done, f0 tells whether its pair is out -/
structure ZmS (h : Heap) (z TI TO i1 i2 l1 l2 : Addr) (k : Nat) (f0 : Value) (xs ys : Array Value) : Prop where
  zz : IsZip h z TI TO f0
  ti : IsPair h TI (.ref i1) (.ref i2)
  t1 : h.IsTupleIter i1 l1 k
  t2 : h.IsListIter i2 l2 k
  q1 : h.IsTuple l1 xs
  q2 : h.IsList l2 ys
section
variable {prog : Program} {w : World} {A : Around} {E : Value → Shared → Prop} {s : Shared}
theorem zm_item {z TI TO i1 i2 l1 l2 : Addr} {k : Nat} {xs ys : Array Value} {x y a b : Value} {Q : Value → Shared → Prop} (D : ZipApart z TI TO i1 i2 l1 l2) (m : ZmS s.heap z TI TO i1 i2 l1 l2 k .none xs ys) (o : IsPair s.heap TO a b) (hx : xs[k]? = some x) (hy : ys[k]? = some y)
    (hQ : ∀ h', IsZip h' z TI TO (rawInt s.heap.objs.size) → IsPair h' TO x y → h'.IsTupleIter i1 l1 (k + 1) → h'.IsListIter i2 l2 (k + 1) → IsPair h' s.heap.objs.size x y → h'.objs.size = s.heap.objs.size + 1 →
      (∀ c u, c ≠ z → c ≠ TO → c ≠ i1 → c ≠ i2 → s.heap.get? c = some u → h'.get? c = some u) → Q (.ref s.heap.objs.size) { s with heap := h' }) :
    wpAny (model prog w) A (Builtin.«zip.__next__» ⟨[.ref z], []⟩) (fun fin s' => ∃ v, fin = .done (.ret v) ∧ Q v s') E s := by
  show wpAny _ _ (field (.ref z) 2 >>= _) _ _ _
  refine wpAny_bind (wpAny_field m.zz rfl (x := .bool false) rfl ?_)
  show wpAny _ _ (field (.ref z) 3 >>= _) _ _ _
  refine wpAny_bind (wpAny_field m.zz rfl (x := .ref TI) rfl ?_)
  refine wpAny_bind (wpAny_seqItems m.ti rfl (wpAny_bind ?_))
  unfold Builtin.SmallTypes.ownedTupleIsFree
  refine wpAny_bind (wpAny_field m.zz rfl (x := .none) rfl (wpAny_pure ?_))
  simp only [if_true]
  refine wpAny_bind (wpAny_rule (wpAny_bind (wpAny_field m.zz rfl (x := .ref TO) rfl (wpAny_bind (wpAny_setField_rec m.zz (by simp) fun ha za sa => wpAny_bind ?_)))))
  replace za : IsZip ha z TI TO .ellipsis := za
  simp only [List.zipIdx_cons, List.zipIdx_nil, List.forIn_cons, List.forIn_nil]
  refine wpAny_bind (wpAny_bind (wpAny_onRaise (wpAny_bind (RZ.nextOf_tuple_item (m.t1.extBut sa.extBut D.i1z) (m.q1.extBut sa.extBut D.l1z) hx fun hb tb sb => wpAny_pure ?_))))
  have ob : IsPair hb TO a b := sb.extBut _ _ D.TOi1 (sa.extBut _ _ D.TOz o)
  refine wpAny_bind (wpAny_seqItems ob rfl (wpAny_bind (wpAny_updateSeq_pair ob fun hc oc sc => wpAny_bind (wpAny_letGo (wpAny_pure ?_)))))
  replace oc : IsPair hc TO x b := oc
  refine wpAny_bind (wpAny_bind (wpAny_onRaise (wpAny_bind (wpAny_nextOf_list_item (((m.t2.extBut sa.extBut D.i2z).extBut sb.extBut D.i12.symm).extBut sc.extBut D.TOi2.symm) (((m.q2.extBut sa.extBut D.l2z).extBut sb.extBut D.l2i1).extBut sc.extBut D.l2TO) hy fun hd td sd => wpAny_pure ?_))))
  have od : IsPair hd TO x b := sd.extBut _ _ D.TOi2 oc
  refine wpAny_bind (wpAny_seqItems od rfl (wpAny_bind (wpAny_updateSeq_pair od fun he oe se => wpAny_bind (wpAny_letGo (wpAny_pure (wpAny_pure ?_))))))
  replace oe : IsPair he TO x y := oe
  refine wpAny_bind (wpAny_seqItems oe rfl (wpAny_bind (wpAny_newTuple (wpAny_bind ?_))))
  have ez : he.objs.size = s.heap.objs.size := by rw [se.1, sd.1, sc.1, sb.1, sa.1]
  have ze : IsZip he z TI TO .ellipsis := se.extBut _ _ D.TOz.symm (sd.extBut _ _ D.i2z.symm (sc.extBut _ _ D.TOz.symm (sb.extBut _ _ D.i1z.symm za)))
  have ke : ∀ c u, c ≠ z → c ≠ TO → c ≠ i1 → c ≠ i2 → s.heap.get? c = some u → he.get? c = some u := fun c u n1 n2 n3 n4 e => se.extBut _ _ n2 (sd.extBut _ _ n4 (sc.extBut _ _ n2 (sb.extBut _ _ n3 (sa.extBut _ _ n1 e))))
  have t1e : he.IsTupleIter i1 l1 (k + 1) := ((tb.extBut sc.extBut D.TOi1.symm).extBut sd.extBut D.i12).extBut se.extBut D.TOi1.symm
  have t2e : he.IsListIter i2 l2 (k + 1) := td.extBut se.extBut D.TOi2.symm
  have zl : z < he.objs.size := Heap.lt_size ze
  unfold Builtin.SmallTypes.ownedTupleHandOut
  refine wpAny_bind (wpAny_setField_rec (show IsZip (he.push { cls := .type "tuple", data := .seq #[x, y] }) z TI TO .ellipsis from Heap.get?_push_of_some _ ze) (by simp) fun hf zf sf => ?_)
  replace zf : IsZip hf z TI TO (rawInt he.objs.size) := zf
  refine wpAny_setField_rec zf (by simp) fun hg zg sg => wpAny_pure ⟨_, rfl, ?_⟩
  replace zg : IsZip hg z TI TO (rawInt he.objs.size) := zg
  have up : ∀ c u, c ≠ z → he.get? c = some u → hg.get? c = some u := fun c u n e => sg.extBut _ _ n (sf.extBut _ _ n (Heap.get?_push_of_some _ e))
  have tg : IsPair hg he.objs.size x y := sg.extBut _ _ (Nat.ne_of_gt zl) (sf.extBut _ _ (Nat.ne_of_gt zl) (Heap.get?_push_size _ rfl))
  have gz : hg.objs.size = he.objs.size + 1 := by rw [sg.1, sf.1, Heap.size_push]
  rw [ez] at zg tg gz
  show Q (.ref he.objs.size) _
  rw [ez]
  exact hQ hg zg (up _ _ D.TOz oe) (t1e.at fun u e => up _ u D.i1z e) (t2e.at fun u e => up _ u D.i2z e) tg gz fun c u n1 n2 n3 n4 e => up c u n1 (ke c u n1 n2 n3 n4 e)
theorem zm_end {z TI TO i1 i2 l1 l2 : Addr} {k : Nat} {xs ys : Array Value} {a b : Value} {Q : Fin → Shared → Prop} (hh : A.handled = none) (D : ZipApart z TI TO i1 i2 l1 l2) (m : ZmS s.heap z TI TO i1 i2 l1 l2 k .none xs ys) (o : IsPair s.heap TO a b) (hend : xs[k]? = none ∨ ys[k]? = none)
    (hE : ∀ h' e, (∀ c u, c ≠ z → c ≠ TO → c ≠ i1 → c ≠ i2 → s.heap.get? c = some u → h'.get? c = some u) → (∃ u, h'.get? e = some u ∧ u.cls = .type "StopIteration") → E (.ref e) { s with heap := h' }) :
    wpAny (model prog w) A (Builtin.«zip.__next__» ⟨[.ref z], []⟩) Q E s := by
  show wpAny _ _ (field (.ref z) 2 >>= _) _ _ _
  refine wpAny_bind (wpAny_field m.zz rfl (x := .bool false) rfl ?_)
  show wpAny _ _ (field (.ref z) 3 >>= _) _ _ _
  refine wpAny_bind (wpAny_field m.zz rfl (x := .ref TI) rfl ?_)
  refine wpAny_bind (wpAny_seqItems m.ti rfl (wpAny_bind ?_))
  unfold Builtin.SmallTypes.ownedTupleIsFree
  refine wpAny_bind (wpAny_field m.zz rfl (x := .none) rfl (wpAny_pure ?_))
  simp only [if_true]
  refine wpAny_bind (wpAny_rule (wpAny_bind (wpAny_field m.zz rfl (x := .ref TO) rfl (wpAny_bind (wpAny_setField_rec m.zz (by simp) fun ha za sa => wpAny_bind ?_)))))
  replace za : IsZip ha z TI TO .ellipsis := za
  simp only [List.zipIdx_cons, List.zipIdx_nil, List.forIn_cons, List.forIn_nil]
  cases hx : xs[k]? with
  | none =>
    refine wpAny_bind (wpAny_bind (wpAny_onRaise (wpAny_bind (RZ.nextOf_tuple_end hh (m.t1.extBut sa.extBut D.i1z) (m.q1.extBut sa.extBut D.l1z) hx fun hb e sb hst => ?_))))
    obtain ⟨u, hu, cu⟩ := hst
    have zb : IsZip hb z TI TO .ellipsis := sb _ _ D.i1z.symm za
    have ne : e ≠ z := fun q => by subst q; rw [zb] at hu; cases hu; simp at cu
    exact wpAny_setField_rec zb (by simp) fun hc _ sc => hE hc e (fun c v n1 _ n3 _ q => sc.extBut _ _ n1 (sb _ _ n3 (sa.extBut _ _ n1 q))) ⟨u, sc.extBut _ _ ne hu, cu⟩
  | some x =>
    have hy : ys[k]? = none := by
      rcases hend with h | h
      · rw [hx] at h; cases h
      · exact h
    refine wpAny_bind (wpAny_bind (wpAny_onRaise (wpAny_bind (RZ.nextOf_tuple_item (m.t1.extBut sa.extBut D.i1z) (m.q1.extBut sa.extBut D.l1z) hx fun hb tb sb => wpAny_pure ?_))))
    have ob : IsPair hb TO a b := sb.extBut _ _ D.TOi1 (sa.extBut _ _ D.TOz o)
    refine wpAny_bind (wpAny_seqItems ob rfl (wpAny_bind (wpAny_updateSeq_pair ob fun hc oc sc => wpAny_bind (wpAny_letGo (wpAny_pure ?_)))))
    refine wpAny_bind (wpAny_bind (wpAny_onRaise (wpAny_bind (wpAny_nextOf_list_end hh (((m.t2.extBut sa.extBut D.i2z).extBut sb.extBut D.i12.symm).extBut sc.extBut D.TOi2.symm) (((m.q2.extBut sa.extBut D.l2z).extBut sb.extBut D.l2i1).extBut sc.extBut D.l2TO) hy fun hd e sd hst => ?_))))
    obtain ⟨u, hu, cu⟩ := hst
    have zd : IsZip hd z TI TO .ellipsis := sd _ _ D.i2z.symm (sc.extBut _ _ D.TOz.symm (sb.extBut _ _ D.i1z.symm za))
    have ne : e ≠ z := fun q => by subst q; rw [zd] at hu; cases hu; simp at cu
    exact wpAny_setField_rec zd (by simp) fun hf _ sf => hE hf e (fun c v n1 n2 n3 n4 q => sf.extBut _ _ n1 (sd _ _ n4 (sc.extBut _ _ n2 (sb.extBut _ _ n3 (sa.extBut _ _ n1 q))))) ⟨u, sf.extBut _ _ ne hu, cu⟩
theorem zm_nextI {z TI TO i1 i2 l1 l2 : Addr} {k : Nat} {xs ys : Array Value} {x y a b : Value} {Q : Option Value → Shared → Prop} (D : ZipApart z TI TO i1 i2 l1 l2) (m : ZmS s.heap z TI TO i1 i2 l1 l2 k .none xs ys) (o : IsPair s.heap TO a b) (hx : xs[k]? = some x) (hy : ys[k]? = some y)
    (hQ : ∀ h', IsZip h' z TI TO (rawInt s.heap.objs.size) → IsPair h' TO x y → h'.IsTupleIter i1 l1 (k + 1) → h'.IsListIter i2 l2 (k + 1) → IsPair h' s.heap.objs.size x y → h'.objs.size = s.heap.objs.size + 1 →
      (∀ c u, c ≠ z → c ≠ TO → c ≠ i1 → c ≠ i2 → s.heap.get? c = some u → h'.get? c = some u) → Q (some (.ref s.heap.objs.size)) { s with heap := h' }) : wpAny (model prog w) A (pyNext (.ref z)) Q E s := by
  have ty : s.TypeIs (.ref z) "zip" := ⟨_, m.zz, rfl⟩
  unfold pyNext
  refine wpAny_bind (wpAny_attempt (wpAny_callSpecial?_slot (name := Str.ofString "__next__") ty F.slot_zip_next (wpAny_call_entry F.slot_zip_next ty F.entry_zip_next ?_ (F.args_zip_next_1 _))))
  exact zm_item D m o hx hy fun h' a1 a2 a3 a4 a5 a6 a7 => wpAny_pure (hQ h' a1 a2 a3 a4 a5 a6 a7)
theorem zm_nextE {z TI TO i1 i2 l1 l2 : Addr} {k : Nat} {xs ys : Array Value} {a b : Value} {Q : Option Value → Shared → Prop} (hh : A.handled = none) (D : ZipApart z TI TO i1 i2 l1 l2) (m : ZmS s.heap z TI TO i1 i2 l1 l2 k .none xs ys) (o : IsPair s.heap TO a b) (hend : xs[k]? = none ∨ ys[k]? = none)
    (hQ : ∀ h', (∀ c u, c ≠ z → c ≠ TO → c ≠ i1 → c ≠ i2 → s.heap.get? c = some u → h'.get? c = some u) → Q none { s with heap := h' }) : wpAny (model prog w) A (pyNext (.ref z)) Q E s := by
  have ty : s.TypeIs (.ref z) "zip" := ⟨_, m.zz, rfl⟩
  unfold pyNext
  refine wpAny_bind (wpAny_attempt (wpAny_callSpecial?_slot (name := Str.ofString "__next__") ty F.slot_zip_next (wpAny_call_entry F.slot_zip_next ty F.entry_zip_next ?_ (F.args_zip_next_1 _))))
  refine zm_end hh D m o hend fun h' e hk hst => ?_
  obtain ⟨u, hu, cu⟩ := hst
  exact wpAny_bind (wpAny_isInstance (T := "StopIteration") (b := true) ⟨u, hu, cu⟩ isSubtype_stop (wpAny_pure (hQ _ hk)))
end
abbrev zmA (h : Heap) (l1 : Addr) : Heap := h.push { cls := .type "tuple_iterator", data := .fields #[.ref l1, .int 0 0] }
abbrev zmB (h : Heap) (l1 l2 : Addr) : Heap := (zmA h l1).push { cls := .type "list_iterator", data := .fields #[.ref l2, .int 0 0] }
abbrev zmC (h : Heap) (l1 l2 : Addr) : Heap := (zmB h l1 l2).push { cls := .type "tuple", data := .seq #[.ref h.objs.size, .ref (zmA h l1).objs.size] }
abbrev zmD (h : Heap) (l1 l2 : Addr) : Heap := (zmC h l1 l2).push { cls := .type "tuple", data := .seq #[.none, .none] }
abbrev zmE (h : Heap) (l1 l2 : Addr) : Heap := (zmD h l1 l2).push { cls := .type "zip", data := .fields #[.none, .bool false, .bool false, .ref (zmB h l1 l2).objs.size, .ref (zmC h l1 l2).objs.size] }
theorem meets_zm (l1 l2 : Addr) (xs ys : Array Value) : Meets (Builtin.«zip.__new__» ⟨[.type "zip", .ref l1, .ref l2], []⟩) (fun _ R s => s.heap.IsTuple l1 xs ∧ s.heap.IsList l2 ys ∧ R (.ok (.ret (.ref (zmD s.heap l1 l2).objs.size))) { s with heap := zmE s.heap l1 l2 }) :=
  .of_wp fun prog w A R s h => by
    obtain ⟨hp, g, d, tk, os⟩ := s
    obtain ⟨h1, h2, h⟩ := h
    have q0 := sub_zip
    have q1 : Heap.IsTuple (Shared.heap ⟨hp, g, d, tk, os⟩) l1 xs := h1
    have q2 : Heap.IsList (Shared.heap ⟨zmA hp l1, g, d, tk, os⟩) l2 ys := Heap.IsList.push h2 _
    wp_walk using wpAny_pyIter_tuple q1, wpAny_pyIter_list q2
    exact ⟨_, rfl, h⟩
section
variable {prog : Program} {w : World} {A : Around} {E : Value → Shared → Prop} {s : Shared}
theorem call_zm {l1 l2 : Addr} {xs ys : Array Value} {Q : Value → Shared → Prop} (h1 : s.heap.IsTuple l1 xs) (h2 : s.heap.IsList l2 ys)
    (h : ∀ h', ZmS h' (s.heap.objs.size + 4) (s.heap.objs.size + 2) (s.heap.objs.size + 3) s.heap.objs.size (s.heap.objs.size + 1) l1 l2 0 .none xs ys → IsPair h' (s.heap.objs.size + 3) .none .none → (∀ c u, s.heap.get? c = some u → h'.get? c = some u) → Q (.ref (s.heap.objs.size + 4)) { s with heap := h' }) :
    wpAny (model prog w) A (call (.type "zip") [.ref l1, .ref l2]) Q E s := by
  refine callType_new F.called_zip (by decide) (F.typeCall_zip_2 _ _) (F.newCall_zip_2 _ _) (fun obj => F.args_object_init_3 obj _ _) F.entry_zip_new (meets_zm l1 l2 xs ys) ⟨h1, h2, ?_⟩
  have za : (zmA s.heap l1).objs.size = s.heap.objs.size + 1 := Heap.size_push ..
  have zb : (zmB s.heap l1 l2).objs.size = s.heap.objs.size + 2 := by rw [Heap.size_push, za]
  have zc : (zmC s.heap l1 l2).objs.size = s.heap.objs.size + 3 := by rw [Heap.size_push, zb]
  have zd : (zmD s.heap l1 l2).objs.size = s.heap.objs.size + 4 := by rw [Heap.size_push, zc]
  have up : ∀ (g : Heap) (u v : Obj) {c : Addr} {x : Obj}, g.get? c = some x → ((g.push u).push v).get? c = some x := fun g u v {c x} e => Heap.get?_push_of_some _ (Heap.get?_push_of_some _ e)
  have ge : (zmE s.heap l1 l2).get? (zmD s.heap l1 l2).objs.size = some _ := Heap.get?_push_size _ rfl
  have gd : (zmE s.heap l1 l2).get? (zmC s.heap l1 l2).objs.size = some _ := Heap.get?_push_of_some _ (Heap.get?_push_size _ rfl)
  have gc : (zmE s.heap l1 l2).get? (zmB s.heap l1 l2).objs.size = some _ := up _ _ _ (Heap.get?_push_size _ rfl)
  have gb : (zmE s.heap l1 l2).get? (zmA s.heap l1).objs.size = some _ := Heap.get?_push_of_some _ (up _ _ _ (Heap.get?_push_size _ rfl))
  have ga : (zmE s.heap l1 l2).get? s.heap.objs.size = some _ := up _ _ _ (up _ _ _ (Heap.get?_push_size _ rfl))
  have gk : ∀ c u, s.heap.get? c = some u → (zmE s.heap l1 l2).get? c = some u := fun c u e => Heap.get?_push_of_some _ (up _ _ _ (up _ _ _ e))
  show _ ∧ _
  rw [zb, zc, zd] at ge
  rw [za, zb] at gc
  rw [zc] at gd
  rw [za] at gb
  rw [zd]
  refine ⟨⟨_, ge, rfl⟩, h _ ⟨ge, gc, ⟨_, ga, rfl, rfl⟩, ⟨_, gb, rfl, rfl⟩, ?_, ?_⟩ gd gk⟩
  · exact h1.at fun u e => gk _ u e
  · exact h2.at fun u e => gk _ u e
end
def ItM (K : PySem.W.Frag) (a b : Addr) : It where
  go := fun i H => ∃ (xs ys : List V) (x y : V), SqT K H a xs ∧ SqL K H b ys ∧ xs[i]? = some x ∧ ys[i]? = some y
  yld := fun i H v H' => ∃ T x y, v = .ref T ∧ H T = none ∧ H' = upd H T (.tup [x, y]) ∧ (∀ xs, SqT K H a xs → xs[i]? = some x) ∧ ∀ ys, SqL K H b ys → ys[i]? = some y
  stop := fun i H => ∃ xs ys : List V, SqT K H a xs ∧ SqL K H b ys ∧ (xs.length ≤ i ∨ ys.length ≤ i)
theorem five {z TI TO i1 i2 c : Addr} (h : c ∈ [z, TI, TO, i1, i2]) : c = z ∨ c = TI ∨ c = TO ∨ c = i1 ∨ c = i2 := by simpa using h
/-- the five objects of such a zip -/
def ZmT (z TI TO i1 i2 a b : Addr) (i : Nat) (h : Heap) : Prop := IsZip h z TI TO .none ∧ IsPair h TI (.ref i1) (.ref i2) ∧ (∃ x y, IsPair h TO x y) ∧ h.IsTupleIter i1 a i ∧ h.IsListIter i2 b i
theorem turn_zm {P : Program} {w : World} {K : PySem.W.Frag} {elts : List Expr} {kk : Nat} {tpos : Pos} {a b z TI TO i1 i2 : Addr} (D : ZipApart z TI TO i1 i2 a b) : Turn P w K (.Tuple elts kk tpos) (ItM K a b) [z, TI, TO, i1, i2] z (ZmT z TI TO i1 i2 a b) where
  mem := List.mem_cons_self
  obj := fun i h st c hc => by
    obtain ⟨hz, h1, ⟨x, y, h2⟩, ⟨o1, e1, _, d1⟩, ⟨o2, e2, _, d2⟩⟩ := st
    rcases five hc with rfl | rfl | rfl | rfl | rfl
    · exact ⟨_, hz, nofun⟩
    · exact ⟨_, h1, nofun⟩
    · exact ⟨_, h2, nofun⟩
    · exact ⟨o1, e1, fun v q => by rw [d1] at q; cases q⟩
    · exact ⟨o2, e2, fun v q => by rw [d2] at q; cases q⟩
  keep := fun i h h' st k => by
    obtain ⟨hz, h1, ⟨x, y, h2⟩, h3, h4⟩ := st
    exact ⟨k z (by simp) _ hz, k TI (by simp) _ h1, ⟨x, y, k TO (by simp) _ h2⟩, h3.at fun o q => k i1 (by simp) o q, h4.at fun o q => k i2 (by simp) o q⟩
  item := by
    intro X eP ew eK hc i pins s σ H E I hf st hg
    subst eP ew eK
    obtain ⟨hz, hi, ⟨x0, y0, ho⟩, h1, h2⟩ := st
    obtain ⟨xs, ys, x, y, qx, qy, ex, ey⟩ := hg
    obtain ⟨us, rv, p, _⟩ := I.tuple qx
    obtain ⟨ws, rv2, p2, _⟩ := I.list qy
    obtain ⟨u, hu, ru⟩ := rv.get ex
    obtain ⟨u2, hu2, ru2⟩ := rv2.get ey
    have hzl : z < s.heap.objs.size := Heap.lt_size hz
    have old : ∀ c ∈ [z, TI, TO, i1, i2], c < s.heap.objs.size := fun c hcm => by
      obtain ⟨o1, e1, _⟩ := h1
      obtain ⟨o2, e2, _⟩ := h2
      rcases five hcm with rfl | rfl | rfl | rfl | rfl
      · exact hzl
      · exact Heap.lt_size hi
      · exact Heap.lt_size ho
      · exact Heap.lt_size e1
      · exact Heap.lt_size e2
    refine zm_nextI D ⟨hz, hi, h1, h2, p, p2.isList⟩ ho (x := u) (y := u2) (by simpa using hu) (by simpa using hu2) fun h' z' o' t1 t2 hT hsz hk => ⟨_, rfl, ?_⟩
    refine wpAny_letOwnedTupleGo_zip (s := { s with heap := h' }) z' fun hq zq sq => ?_
    have nT : hq.get? s.heap.objs.size = some { cls := .type "tuple", data := .seq #[u, u2] } := (sq.2 _ (Nat.ne_of_gt hzl)).trans hT
    have nw : ObjOk X.prog X.w (upd H s.heap.objs.size (.tup [x, y])) hq s.heap.objs.size (.tup [x, y]) := ⟨by show 2 ≤ sizeLine; rw [sizeLine_eq]; decide, [u, u2], .cons ru (.cons ru2 .nil), ⟨_, nT, rfl, _, rfl⟩⟩
    have ap : ∀ {c : Addr}, c ∉ [z, TI, TO, i1, i2] → c ≠ z ∧ c ≠ TO ∧ c ≠ i1 ∧ c ≠ i2 := fun h => ⟨fun q => h (by simp [q]), fun q => h (by simp [q]), fun q => h (by simp [q]), fun q => h (by simp [q])⟩
    have I1 : Inv X pins σ (upd H s.heap.objs.size (.tup [x, y])) { s with heap := hq } := I.turnedNew (t' := s.toks) (ch := [z, TI, TO, i1, i2]) (fun c o hb q => by
      obtain ⟨n1, n2, n3, n4⟩ := ap hb
      exact (sq.2 c n1).trans (hk c o n1 n2 n3 n4 q)) hf (Nat.le_refl _) nw
    refine ⟨.ref s.heap.objs.size, _, I1, rfl, ⟨_, x, y, rfl, I.hok.fresh (Nat.le_refl _), rfl, fun l hl => by rw [I.tuple_inj hl qx]; exact ex, fun l hl => by rw [I.list_inj hl qy]; exact ey⟩, ⟨zq, ?_, ⟨u, u2, ?_⟩, ?_, ?_⟩, fun c hcm => ?_⟩
    · exact (sq.2 _ D.TIz).trans (hk _ _ D.TIz D.TITO D.TIi1 D.TIi2 hi)
    · exact (sq.2 _ D.TOz).trans o'
    · exact t1.at fun o q => (sq.2 _ D.i1z).trans q
    · exact t2.at fun o q => (sq.2 _ D.i2z).trans q
    · rw [upd_ne (Nat.ne_of_lt (old c hcm))]
      exact (hf c hcm).1
  done := by
    intro X eP ew eK hc i pins s σ H E I hf st hg
    subst eP ew eK
    obtain ⟨hz, hi, ⟨x0, y0, ho⟩, h1, h2⟩ := st
    obtain ⟨xs, ys, qx, qy, hend⟩ := hg
    obtain ⟨us, rv, p, _⟩ := I.tuple qx
    obtain ⟨ws, rv2, p2, _⟩ := I.list qy
    have l1 := rv.length
    have l2 := rv2.length
    refine zm_nextE (I.ok.hd hc) D ⟨hz, hi, h1, h2, p, p2.isList⟩ ho (hend.imp (fun q => by simp; omega) fun q => by simp; omega) fun h' hk => ⟨rfl, ?_⟩
    exact I.turnedL (t' := s.toks) (ch := [z, TI, TO, i1, i2]) (fun c o hb q => hk c o (fun e => hb (by simp [e])) (fun e => hb (by simp [e])) (fun e => hb (by simp [e])) (fun e => hb (by simp [e])) q) hf
  self := fun A i s Q E st h => wpAny_pyIter_zip st.1 h
def OnM (K : PySem.W.Frag) (R : It → Hp → Prop) (vs : List V) (H : Hp) : Prop := ∃ a b xs ys, vs = [.ref a, .ref b] ∧ SqT K H a xs ∧ SqL K H b ys ∧ R (ItM K a b) H
def iZipM (K : PySem.W.Frag) (ta : TA) : TI := fun σ H R => ta σ H (OnM K R)
theorem pi_zm {X : Cx} {e e2 : Expr} {ta : TA} {p pos tpos : Pos} {elts : List Expr} {kk : Nat} (hg : Gl X "zip") (hm : X.mg "zip" = none) (ha : PA X [e, e2] ta)
    (hs : starEach [e, e2] X.env = (false, eval e X.env) :: starEach [e2] X.env := by rfl) (hpl : (backTo pos (starEach [e2] X.env)).any (·.1) = false := by rfl) : PI X (.Tuple elts kk tpos) (.Call (.Name "zip" p) [e, e2] [] pos) (iZipM X.K ta) := by
  refine ⟨fun pins s σ H R I h => Call_ (ld_blt I hg hm PyProof.Rows.boot_zip (PyProof.Rows.callWith_type1 (thn (ha.run pos pins s σ H _ I h) fun us s1 ⟨vs, H1, I1, r1, q1⟩ => ?_) hs hpl))⟩
  obtain ⟨a, b, xs, ys, ex, qx, qy, q⟩ := q1
  subst ex
  obtain _ | ⟨r, _ | ⟨r', rr⟩⟩ := r1
  cases rr
  cases r
  cases r'
  obtain ⟨its, rv, p1, _⟩ := I1.tuple qx
  obtain ⟨its2, rv2, p2, _⟩ := I1.list qy
  obtain ⟨o1, ho1, _⟩ := id p1
  refine call_zm (show s1.heap.IsTuple a its.toArray from p1) p2.isList fun h' m ho hk => wpAny_pyIter_zip m.zz ?_
  refine ⟨s1.heap.objs.size + 4, [s1.heap.objs.size + 4, s1.heap.objs.size + 2, s1.heap.objs.size + 3, s1.heap.objs.size, s1.heap.objs.size + 1], _, _, H1, rfl, I1.kept (t' := s1.toks) hk, turn_zm (PySem.W.ktu_apart s1.heap.objs.size a b (Heap.lt_size ho1) p2.lt), ⟨m.zz, m.ti, ⟨_, _, ho⟩, m.t1, m.t2⟩, fun c hcm => ?_, q⟩
  have hle : s1.heap.objs.size ≤ c := by rcases five hcm with rfl | rfl | rfl | rfl | rfl <;> omega
  exact I1.fpOk hle (I1.hok.fresh hle)
theorem k_iZipM {X : Cx} {e e2 : Expr} {ta : TA} {elts : List Expr} {kk : Nat} {p pos tpos : Pos} (K : PySem.W.Frag) (hg : Gl X "zip") (hm : X.mg "zip" = none) (ha : PA X [e, e2] ta) (h : X.K = K := by rfl) (hs : starEach [e, e2] X.env = (false, eval e X.env) :: starEach [e2] X.env := by rfl) (hpl : (backTo pos (starEach [e2] X.env)).any (·.1) = false := by rfl) : PI X (.Tuple elts kk tpos) (.Call (.Name "zip" p) [e, e2] [] pos) (iZipM K ta) := by
  subst h; exact pi_zm hg hm ha hs hpl
theorem w_iZipM {K : PySem.W.Frag} {R : It → Hp → Prop} {ta : TA} {σ : L2.St} {H : Hp} (h : ta σ H (OnM K R)) : iZipM K ta σ H R := h
theorem w_onM {K : PySem.W.Frag} {R : It → Hp → Prop} {H : Hp} {a b : Addr} {xs ys : List V} (h1 : SqT K H a xs) (h2 : SqL K H b ys) (h : R (ItM K a b) H) : OnM K R [.ref a, .ref b] H := ⟨a, b, xs, ys, rfl, h1, h2, h⟩
theorem walk_zm {K : PySem.W.Frag} {a b : Addr} {xs ys : List V} (hn : xs.length = ys.length) : Walk (ItM K a b) xs.length (fun H => SqT K H a xs ∧ SqL K H b ys) (YPair (fun i => xs[i]?) (fun i => ys[i]?)) where
  goes := fun i H hi h => ⟨xs, ys, xs[i], ys[i]'(by omega), h.1, h.2, List.getElem?_eq_getElem hi, List.getElem?_eq_getElem (by omega)⟩
  stops := fun H h => ⟨xs, ys, h.1, h.2, .inl (Nat.le_refl _)⟩
  yields := fun i H v H' _ h ⟨T, x, y, e1, e2, e3, e4, e5⟩ => ⟨T, x, y, e1, e2, e3, e4 xs h.1, e5 ys h.2⟩
end TP

namespace TP
open PySem PySem.Spec PyProof.Rows L2
theorem shX_of {d : PyData} (h : smW d = true) : ShowsX d := by
  simp only [smW, Bool.and_eq_true, decide_eq_true_eq] at h
  obtain ⟨k1, k2, k3, k4⟩ := h
  refine ⟨k1, by omega, by omega, ?_⟩
  simp at k4
  show (!d.hasDict || _) = true
  rw [k4]; rfl
theorem smW_in {d : PyData} (h : smW (.tuple [d]) = true) : smW d = true := by
  simp only [smW, Bool.and_eq_true, decide_eq_true_eq] at h ⊢
  obtain ⟨k1, k2, k3, k4⟩ := h
  have k1 : (okX d && true) = true := k1
  have k2 : rbX d + 2 + 0 + 3 ≤ 1000000 := k2
  refine ⟨by simpa using k1, by omega, ?_, ?_⟩
  · simp only [PyData.depth, PyData.depthAll] at k3
    omega
  · simpa [PyData.hasDict, PyData.hasDictAll] using k4
theorem shX_lst {d : PyData} (h : smW d = true) : ShowsX (.list [d]) := by
  simp only [smW, Bool.and_eq_true, decide_eq_true_eq] at h
  obtain ⟨k1, k2, k3, k4⟩ := h
  refine ⟨?_, ?_, ?_, ?_⟩
  · show (okX d && true) = true
    rw [k1]; rfl
  · show rbX d + 2 + 0 + 2 ≤ _
    omega
  · simp only [PyData.depth, PyData.depthAll]; omega
  · have e : (PyData.list [d]).hasDict = d.hasDict := by simp [PyData.hasDict, PyData.hasDictAll]
    show (!(PyData.list [d]).hasDict || _) = true
    rw [e]
    simp at k4
    rw [k4]; rfl
theorem bag_s32 {c : Int} {qs : Bag} (h : SumV c qs) (hs : sumC qs ≤ 10 ^ 36) : BagS qs := h.ok.s fun p hp => Int.le_trans (mem_le (fun q hq => by have := h.ok.pos q hq; omega) p hp) (Int.le_trans hs (by decide))
theorem row_smW {c : Int} {n : Str} {m : Int} (h : RowV c (.run n m)) : smW (pairD (n, m)) = true := by
  refine smW_in (smW_bag (ps := [(n, m)]) (fun p hp => ?_) (Nat.le_of_ble_eq_true rfl))
  cases List.mem_singleton.mp hp
  exact ⟨h.1, by have := h.2.1; show 0 ≤ m; omega, Int.le_trans h.2.2 (by decide)⟩
section
variable {K : PySem.W.Frag} {H : Hp} {Q : VK} {c : Int} {a dx : Addr} {s : StA} {past : List (Act × StA)} {busy : Bool} {att : Int} {B R P : V} {sp : Sp} {js : List Nat} {E : XK}
theorem w_lenCol (h : ColO K H a c s past busy att dx B R P) (q : sp (pick js ([.ref a] ++ [] ++ [])) H (fun v H' => ∃ n : Int, v = .int n ∧ 0 ≤ n ∧ n < 2 ^ 63 ∧ Q (.int n) H') E) : rLenO (He.ga K "Collector") sp js E [.ref a] H Q := ⟨a, dx, _, rfl, h.ins, q⟩
theorem w_strCol (h : ColO K H a c s past busy att dx B R P) (q : sp (pick js ([.ref a] ++ [] ++ [])) H (fun v H' => ∃ y : Str, v = .str y ∧ Q (.str y) H') E) : rStrO (He.ga K "Collector") sp js E [.ref a] H Q := ⟨a, dx, _, rfl, h.ins, q⟩
end
theorem five_shows {c : Int} {p q : Bag} (c1 : 1 ≤ c) (c8 : c ≤ 8) (hp : BagS p) (lp : p.length ≤ 12) (hq : BagS q) (lq : q.length ≤ 12) : Shows (.list [.int c, .int c, bagD p, .int c, bagD q]) := by
  obtain ⟨p1, p2, p3⟩ := bag_shows_aux p hp
  obtain ⟨q1, q2, q3⟩ := bag_shows_aux q hq
  have hc : okD (.int c) = true := decide_eq_true (log2_le c (by omega) (Int.le_trans c8 (by decide)))
  refine ⟨?_, ?_, ?_⟩
  · show (okD (.int c) && (okD (.int c) && (okDs (p.map pairD) && (okD (.int c) && (okDs (q.map pairD) && true))))) = true
    rw [hc, p1, q1]; rfl
  · show (1921 + 2 + (1921 + 2 + ((rbs (p.map pairD) + 3) + 2 + (1921 + 2 + ((rbs (q.map pairD) + 3) + 2 + 0))))) + 2 ≤ _
    omega
  · show max 0 (max 0 (max (PyData.depthAll (p.map pairD) + 1) (max 0 (max (PyData.depthAll (q.map pairD) + 1) 0)))) + 1 ≤ 60
    omega
/-- the arrivals of runs are counts -/
theorem runs_bag {c : Int} {rows : List Row} {ps : Bag} (hv : ∀ r ∈ rows, RowV c r) (hl : rows.length ≤ 100) (hc : IsCan (fun n => posI (getT (tabOf (runsR rows)) n)) ps) (hm : ∀ p ∈ ps, p.1 ∈ (tabOf (runsR rows)).map (·.1)) (h12 : (tabOf (runsR rows)).length ≤ 12) : BagS ps ∧ ps.length ≤ 12 := by
  have hr := runsR_mem hv
  have hrl := runsR_len rows
  have hnn : ∀ p ∈ runsR rows, 0 ≤ p.2 := fun p hp => by have := (hr p hp).2.1; omega
  have htab := tab_ok fun p hp => (hr p hp).2.1
  have hperm := can_tab htab hc
  refine ⟨fun p hp => ?_, by rw [hperm.length_eq]; exact h12⟩
  have h0 := hc.pos p hp
  obtain ⟨z, hz, e⟩ := List.mem_map.mp (namesOf_mem.mp (by have := hm p hp; rw [tabOf_keys] at this; exact this))
  refine ⟨by rw [← e]; exact (hr z hz).1, by omega, ?_⟩
  have hs : sumC (runsR rows) ≤ 10 ^ 32 * ((runsR rows).length : Int) := sum_le (10 ^ 32) fun q hq => (hr q hq).2.2
  have hs2 : 10 ^ 32 * ((runsR rows).length : Int) ≤ 10 ^ 32 * 100 := Int.mul_le_mul_of_nonneg_left (by omega) (by decide)
  have ht : sumC (tabOf (runsR rows)) = sumC (runsR rows) := sum_tab _
  have hp2 : p.2 ≤ sumC ps := mem_le (fun q hq => by have := hc.pos q hq; omega) p hp
  rw [sumC_perm hperm, ht] at hp2
  exact Int.le_trans hp2 (Int.le_trans hs (Int.le_trans hs2 (by decide)))
end TP

namespace TP
open PySem PySem.Spec PyProof.Rows L2
/-! ### what a history shows -/
def actT (c : Int) : Act → List Str
  | .arrive n m => [reprText "arrive", reprText n, toString m]
  | .merge qs => [reprText "merge", rText c qs]
  | .insert i n m => [reprText "insert", toString ((i : Nat) : Int), reprText n, toString m]
  | .remove i => [reprText "remove", toString ((i : Nat) : Int)]
  | .start qs => [reprText "start", rText c qs]
def deedT (c : Int) (a : Act) : Str := tupleText (actT c a)
theorem repr_le {x : Str} (h : okS x) : (reprText x).length ≤ 10 * x.length + 2 := PySem.StrLaws.reprText_len x h
theorem repr_nm {x : Str} (h : isName x = true) : (reprText x).length ≤ 100 := by
  have := repr_le (okS_name h)
  have := (isName_len h).2
  omega
theorem repr_wd (x : String) (h : Str.length (Str.ofString x) ≤ 9) : (reprText (Str.ofString x)).length ≤ 100 := by
  have := repr_le (okS_of x)
  omega
theorem intT_len {i : Int} (h0 : 0 ≤ i) (h1 : i ≤ 10 ^ 100) : Str.length (Str.ofString (toString i)) ≤ 1921 := intS_len h0 h1
theorem sumT_len {c : Int} {qs : Bag} (h : SumV c qs) (hs : sumC qs ≤ 10 ^ 36) : (rText c qs).length ≤ 20000 := by
  have h1 := rText_len (c := c) (bag_s32 h hs) (by have := h.c1; omega) h.c8
  have := h.len
  have := h.c8
  omega
section
variable {RS : Hp → V → Str → Prop} {K : PySem.W.Frag} {H : Hp} {c : Int}
theorem sz1 {n : Nat} (h : n ≤ 1000000) : n ≤ sizeLine := Nat.le_trans h (by rw [sizeLine_eq]; decide)
theorem sw_wd (x : String) (h : Str.length (Str.ofString x) ≤ 9) : Sw K RS H (.str (Str.ofString x)) (reprText (Str.ofString x)) 0 := .str _ (sz1 (by have := repr_wd x h; omega))
theorem sw_nm {x : Str} (h : isName x = true) : Sw K RS H (.str x) (reprText x) 0 := .str _ (sz1 (by have := repr_nm h; omega))
theorem sw_i {i : Int} (h0 : 0 ≤ i) (h1 : i ≤ 10 ^ 100) : Sw K RS H (.int i) (toString i) 0 := .int i (log2_le i h0 h1)
theorem pw32 : (10 : Int) ^ 32 ≤ 10 ^ 100 := by decide
theorem pw36 : (10 : Int) ^ 32 ≤ 10 ^ 36 := by decide
theorem ix100 {i n : Nat} (h : i ≤ n) (h2 : n ≤ 1000) : ((i : Nat) : Int) ≤ 10 ^ 100 := Int.le_trans (show ((i : Nat) : Int) ≤ 1000 by omega) (by decide)
theorem deed_sw (hown : ∀ v qs, SumO K H v c qs → SumV c qs → BagS qs → RS H v (rText c qs)) {v : V} {a : Act} {n : Nat} (h : DeedO K H c v a) (hv : ActV c n a) (hn : n ≤ 1000) : Sw K RS H v (deedT c a) 1 ∧ (deedT c a).length ≤ 30000 := by
  obtain ⟨T, w, rfl, hT, hw⟩ := h
  have hl := tupleText_len_le (actT c a)
  cases a with
  | arrive x m =>
    obtain ⟨h1, h2, h3⟩ := hv
    refine ⟨.tup (SqT.of hT) (.cons (sw_wd "arrive" (by decide +kernel)) (.cons (sw_nm h1) (.cons (sw_i (by omega) (Int.le_trans h3 pw32)) .nil))), ?_⟩
    have q1 := repr_wd "arrive" (by decide +kernel)
    have q2 := repr_nm h1
    have q3 := intT_len (i := m) (by omega) (Int.le_trans h3 pw32)
    simp only [actT, List.map_cons, List.map_nil, List.sum_cons, List.sum_nil, List.length_cons, List.length_nil] at hl
    refine Nat.le_trans hl ?_
    omega
  | insert i x m =>
    obtain ⟨h0, h1, h2, h3⟩ := hv
    refine ⟨.tup (SqT.of hT) (.cons (sw_wd "insert" (by decide +kernel)) (.cons (sw_i (by omega) (ix100 h0 hn)) (.cons (sw_nm h1) (.cons (sw_i (by omega) (Int.le_trans h3 pw32)) .nil)))), ?_⟩
    have q1 := repr_wd "insert" (by decide +kernel)
    have q2 := repr_nm h1
    have q3 := intT_len (i := m) (by omega) (Int.le_trans h3 pw32)
    have q4 := intT_len (i := ((i : Nat) : Int)) (by omega) (ix100 h0 hn)
    simp only [actT, List.map_cons, List.map_nil, List.sum_cons, List.sum_nil, List.length_cons, List.length_nil] at hl
    refine Nat.le_trans hl ?_
    omega
  | remove i =>
    have h0 : i ≤ n := Nat.le_of_lt hv
    refine ⟨.tup (SqT.of hT) (.cons (sw_wd "remove" (by decide +kernel)) (.cons (sw_i (by omega) (ix100 h0 hn)) .nil)), ?_⟩
    have q1 := repr_wd "remove" (by decide +kernel)
    have q4 := intT_len (i := ((i : Nat) : Int)) (by omega) (ix100 h0 hn)
    simp only [actT, List.map_cons, List.map_nil, List.sum_cons, List.sum_nil, List.length_cons, List.length_nil] at hl
    refine Nat.le_trans hl ?_
    omega
  | merge qs =>
    obtain ⟨h1, h2⟩ := hv
    refine ⟨.tup (SqT.of hT) (.cons (sw_wd "merge" (by decide +kernel)) (.cons (.own (hown w qs hw h1 (bag_s32 h1 (Int.le_trans h2 pw36)))) .nil)), ?_⟩
    have q1 := repr_wd "merge" (by decide +kernel)
    have q2 := sumT_len h1 (Int.le_trans h2 pw36)
    simp only [actT, List.map_cons, List.map_nil, List.sum_cons, List.sum_nil, List.length_cons, List.length_nil] at hl
    refine Nat.le_trans hl ?_
    omega
  | start qs =>
    obtain ⟨h1, h2⟩ := hv
    refine ⟨.tup (SqT.of hT) (.cons (sw_wd "start" (by decide +kernel)) (.cons (.own (hown w qs hw h1 (bag_s32 h1 (Int.le_trans h2 pw36)))) .nil)), ?_⟩
    have q1 := repr_wd "start" (by decide +kernel)
    have q2 := sumT_len h1 (Int.le_trans h2 pw36)
    simp only [actT, List.map_cons, List.map_nil, List.sum_cons, List.sum_nil, List.length_cons, List.length_nil] at hl
    refine Nat.le_trans hl ?_
    omega
theorem deeds_sw (hown : ∀ v qs, SumO K H v c qs → SumV c qs → BagS qs → RS H v (rText c qs)) : ∀ {xs : List V} {acts : List Act}, All2 (DeedO K H c) xs acts → (∀ a ∈ acts, ∃ n, n ≤ 1000 ∧ ActV c n a) → ∃ d, d ≤ 1 ∧ SwAll K RS H xs (acts.map (deedT c)) d ∧ ((acts.map (deedT c)).map (·.length)).sum ≤ 30000 * acts.length
  | _, _, .nil, _ => ⟨0, by omega, .nil, Nat.le_refl _⟩
  | _, _, .cons (b := a) (bs := as) h r, hv => by
    obtain ⟨n, hn, ha⟩ := hv a List.mem_cons_self
    obtain ⟨h1, h2⟩ := deed_sw hown h ha hn
    obtain ⟨d, h3, h4, h5⟩ := deeds_sw hown r fun b hb => hv b (List.mem_cons_of_mem _ hb)
    refine ⟨_, ?_, .cons h1 h4, ?_⟩
    · show max 1 d ≤ 1; omega
    · simp only [List.map_cons, List.sum_cons, List.length_cons]
      omega
theorem past_sw (hown : ∀ v qs, SumO K H v c qs → SumV c qs → BagS qs → RS H v (rText c qs)) {T : Addr} {xs : List V} {acts : List Act} (hT : H T = some (.tup xs)) (h : All2 (DeedO K H c) xs acts) (hv : ∀ a ∈ acts, ∃ n, n ≤ 1000 ∧ ActV c n a) (hl : acts.length ≤ 30) : ∃ d, d ≤ 5 ∧ Sw K RS H (.ref T) (tupleText (acts.map (deedT c))) d ∧ (tupleText (acts.map (deedT c))).length ≤ 1000000 := by
  obtain ⟨d, h1, h2, h3⟩ := deeds_sw hown h hv
  refine ⟨d + 1, by omega, .tup (SqT.of hT) h2, ?_⟩
  have h4 := tupleText_len_le (acts.map (deedT c))
  rw [List.length_map] at h4
  refine Nat.le_trans h4 ?_
  omega
end
/-! ### a tuple and one value more -/
/-! ### the words of the runs -/
def RowsW (ws : List Str) (rows : List Row) : Prop := ∀ n m, Row.run n m ∈ rows → n ∈ ws
theorem tab_ws {ws : List Str} {rows : List Row} (h : RowsW ws rows) : (tabOf (runsR rows)).length ≤ ws.length := by
  have e : (tabOf (runsR rows)).length = (namesOf ((runsR rows).map (·.1))).length := by rw [← tabOf_keys, List.length_map]
  rw [e]
  refine (namesOf_nodup _).length_le_of_subset fun n hn => ?_
  obtain ⟨p, hp, e⟩ := List.mem_map.mp (namesOf_mem.mp hn)
  obtain ⟨r, hr, er⟩ := List.mem_filterMap.mp hp
  cases r with
  | run n m => cases er; rw [← e]; exact h _ _ hr
  | sum qs => cases er
theorem rowsW_step {ws : List Str} {s : StA} {a : Act} (h : RowsW ws s.2) (ha : ∀ x ∈ actN a, x ∈ ws) : RowsW ws (stepA s a).2 := by
  intro n m hm
  cases a with
  | arrive x k =>
    rcases List.mem_append.mp hm with hm | hm
    · exact h _ _ hm
    · cases List.mem_singleton.mp hm
      exact ha _ (List.mem_singleton.mpr rfl)
  | merge qs =>
    rcases List.mem_append.mp hm with hm | hm
    · exact h _ _ hm
    · cases List.mem_singleton.mp hm
  | insert i x k =>
    rcases List.mem_append.mp hm with hm | hm
    · rcases List.mem_append.mp hm with hm | hm
      · exact h _ _ (List.mem_of_mem_take hm)
      · cases List.mem_singleton.mp hm
        exact ha _ (List.mem_singleton.mpr rfl)
    · exact h _ _ (List.mem_of_mem_drop hm)
  | remove i =>
    rcases List.mem_append.mp hm with hm | hm
    · exact h _ _ (List.mem_of_mem_take hm)
    · exact h _ _ (List.mem_of_mem_drop hm)
  | start qs => exact h _ _ hm
theorem SameB.sm {a : Addr} {H H' : Hp} (s : SameB a H H') (e : H a = none) : Same H H' := fun b u h => s b u (fun z => by rw [z, e] at h; cases h) h
end TP

namespace TP
open PySem PySem.Spec PyProof.Rows L2
/-! ### try: suite, finally: suite, where nothing raises -/
def tFin (t tf : TS) : TS := fun D σ H => t { nx := fun σ1 H1 => tf D σ1 H1, rt := fun _ _ => False } σ H
theorem ps_fin {X : Cx} {body : List Stmt} {f₀ : Stmt} {fs : List Stmt} {t tf : TS} {pos : Pos} (hb : PSs X.nox body t) (hf : PSs X.nox (f₀ :: fs) tf) : PS X (.Try body [] [] (f₀ :: fs) pos) (tFin t tf) := by
  refine ⟨fun pins s σ H D I h => ?_⟩
  refine wpAny_Try_finally (wpAny_mono (hb.run pins s σ H { nx := fun σ1 H1 => tf D σ1 H1, rt := fun _ _ => False } (I.wish _) h) (fun f s1 q => ?_) fun e s1 z => z.elim)
  have q' : SP X pins { nx := fun σ1 H1 => tf D σ1 H1, rt := fun _ _ => False } f s1 := q.unwish
  cases f with
  | next =>
    obtain ⟨σ', H', I', q2⟩ := q'
    refine wpAny_execs_nil ?_
    refine wpAny_mono (hf.run pins s1 σ' H' D (I'.wish _) q2) (fun g s2 q3 => ?_) fun _ _ z => False.elim z
    have q4 : SP X pins D g s2 := q3.unwish
    cases g <;> exact q4
  | ret v =>
    obtain ⟨_, _, _, _, _, z⟩ := q'
    exact z.elim
  | brk =>
    obtain ⟨_, _, _, z⟩ := q'
    exact z.elim
  | cont =>
    obtain ⟨_, _, _, z⟩ := q'
    exact z.elim
/-! ### methods with keyword-only defaults -/
structure DfdMK (K : PySem.W.Frag) (C m q : Str) (st : Stmt) (kws : List (Str × V)) : Prop where
  ex : ∃ fd, FunD K m q (defArgs st) (defBody st) (defScope st) [] kws (He.ma K (He.ga K C) m) fd
  mt : Meth K (He.ga K C) m (He.ma K (He.ga K C) m)
structure HasMK (P : Program) (w : World) (K : PySem.W.Frag) (mg : Str → Option Value) (base : Heap) (CX : CXT) (k : Nat) (C m q : Str) (st : Stmt) (kws : List (Str × V)) (ps : List Str) (sp : Sp) : Prop where
  ex : ∃ fd, FunD K m q (defArgs st) (defBody st) (defScope st) [] kws (He.ma K (He.ga K C) m) fd ∧ FnG P w K mg base CX k (He.ma K (He.ga K C) m) fd ps sp
  mt : Meth K (He.ga K C) m (He.ma K (He.ga K C) m)
section
variable {P : Program} {w : World} {K : PySem.W.Frag} {mg : Str → Option Value} {base : Heap} {CX : CXT} {k j : Nat} {C m q : Str} {st : Stmt} {kws : List (Str × V)} {N ps : List Str} {sp sp' : Sp}
theorem DfdMK.has (D : DfdMK K C m q st kws) (S : FnScope N ps (defScope st)) (len : ∀ vs H Q E, sp vs H Q E → vs.length = ps.length)
    (hbody : ∀ (cdv : Value) (A : Around) (outer : List Env) (s : Shared) (H : Hp) (vs : List V) (Q : VK) (E : XK), Room k (A.deeper (envOfC q (defScope st) s.heap.objs.size (He.ma K (He.ga K C) m) cdv)) → (A.deeper (envOfC q (defScope st) s.heap.objs.size (He.ma K (He.ga K C) m) cdv)).guards = some [] → sp vs H Q E →
      ∃ t, PSs (cxOf CX P w K mg base N q (defScope st) (He.ma K (He.ga K C) m) cdv A outer s H E) (defBody st) t ∧ t { nx := fun _ H' => Q .non H', rt := Q } (L2.start N vs) H) :
    HasMK P w K mg base CX (k + 1) C m q st kws ps sp := by
  obtain ⟨fd, F⟩ := D.ex
  exact ⟨⟨fd, F, fnG_of F S len hbody⟩, D.mt⟩
end
/-- n positional values, the keyword-only defaults behind them -/
def KwDfM (x q : Str) (st : Stmt) (ps : List Str) (kws : List (Str × V)) : Prop := ∀ (D : Addr) (doc pm : Value) (an : Option Addr) (cdv ct : Value) (us ks : List Value), us.length + kws.length = ps.length → ks.length = kws.length →
  KwChain D ((kws.map (·.1)).zip ks) (bindArgs (PySem.W.fnOf x q (defArgs st) (defBody st) (defScope st) .none (.ref D) doc pm an cdv ct) ⟨us, []⟩) (ps.zip (us ++ ks))
section
variable {X : Cx} {CX : CXT} {k n : Nat} {C m q : Str} {st : Stmt} {kws : List (Str × V)} {ps fs : List Str} {js : List Nat} {sp : Sp} {E : XK} {p pos apos : Pos} {e o : Expr} {es : List Expr} {t ta : TA} {to : TE}
theorem k_mtK (K : PySem.W.Frag) {pl : Sem Bool} (c : ClsF X.K X.mg C fs) (F : HasMK X.prog X.w X.K X.mg X.base CX k C m q st kws ps sp) (hk : kws ≠ []) (hb : KwDfM m q st ps kws) (hr : Room k X.A) (hg : X.A.guards = some []) (hx : Passes CX X E) (ho : PE X o to) (ha : PA X (e :: es) t)
    (hj : ∀ (x : V) (vs : List V), vs.length = n → pick js ((x :: vs) ++ [] ++ kws.map (·.2)) = (x :: vs) ++ kws.map (·.2))
    (hst : starEach (e :: es) X.env = (false, eval e X.env) :: starEach es X.env := by rfl) (hpl : (backTo pos (starEach es X.env)).any (·.1) = false := by rfl)
    (ht : eval (.Call (.Attribute o m apos) (e :: es) [] pos) X.env = (do
      let ov ← eval o X.env
      standAt apos.atName
      let (f, first) ← holding [ov] (getMethod ov m pl)
      callWith pos f first (backTo pos (starEach (e :: es) X.env)) (backToKw pos (keywordEach [] X.env))) := by rfl) (hK : X.K = K := by rfl) :
    PE X (.Call (.Attribute o m apos) (e :: es) [] pos) (tMtN (He.ga K C) m sp n 0 js (kws.map (·.2)) E to t tNil) := by
  subst hK
  obtain ⟨fd, FD, G⟩ := F.ex
  refine ⟨fun pins s σ H Q I h => ?_⟩
  refine PySem.W.methodCall_KW (pl := pl) (thn (ho.run pins s σ H _ I h) fun u s1 ⟨x, H1, I1, rx, a, dx, fs, ex, ea, l, q⟩ => ?_) ht
  subst ex
  obtain rfl : u = Value.ref a := rx
  refine getmeth_ok I1 ea c.cls F.mt l ?_
  refine PySem.W.callWith_K (first := [.ref a]) (h₀ := X.base) I.ok.mod.kin F.mt.kp (thn (ha.run pos pins s1 σ H1 _ I1 q) fun us s2 ⟨vs, H2, I2, r, l1, l2, q2⟩ => ⟨I2.kIn, ?_⟩) hst hpl
  have q3 : sp ((V.ref a :: vs) ++ kws.map (·.2)) H2 Q E := by rw [← hj (V.ref a) vs l1]; exact q2
  have l3 := G.len _ _ _ _ q3
  rw [List.length_append, List.length_map] at l3
  obtain ⟨ds, rd, bd⟩ := FunD.binds0 FD (V.ref a :: vs).length hk l3 (fun D doc pm an cdv ct us ks h1 h2 => hb D doc pm an cdv ct us ks (by omega) h2)
  have rr : Vals (V.ref a :: vs) (Value.ref a :: us) := .cons rfl r
  have l4 : ((Value.ref a :: us) ++ ds).length = ps.length := by rw [List.length_append, ← rr.length, ← rd.length, List.length_map]; exact l3
  exact runG (args := ⟨.ref a :: us, []⟩) G hr hg hx I2 (rr.append rd) (bd s2 (Value.ref a :: us) I2.kIn l4) q3
end
section
variable {X : Cx} {o value : Expr} {ta tv : TE} {f : Str} {pos tpos : Pos} {op : Operator} {rd : V → V → Hp → VK → Prop}
theorem k_aufld (K : PySem.W.Frag) (ha : PE X o ta) (hv : PE X value tv) (hop : InOp X op rd) (hK : X.K = K := by rfl) : PS X (.AugAssign (.Attribute o f tpos) op value pos) (sFldAug K ta tv rd f) := by subst hK; exact ps_fldaug ha hv hop
end
/-! ### several actions -/
def runS (s : StA) (acts : List Act) : StA := acts.foldl stepA s
def histA : StA → List Act → List (Act × StA)
  | _, [] => []
  | s, a :: r => (a, s) :: histA (stepA s a) r
def ActsV (c : Int) : StA → List Act → Prop
  | _, [] => True
  | s, a :: r => ActV c s.2.length a ∧ s.2.length ≤ 99 ∧ ActsV c (stepA s a) r
theorem runS_snoc (s : StA) (acts : List Act) (a : Act) : runS s (acts ++ [a]) = stepA (runS s acts) a := by unfold runS; rw [List.foldl_append]; rfl
theorem histA_snoc : ∀ (s : StA) (acts : List Act) (a : Act), histA s (acts ++ [a]) = histA s acts ++ [(a, runS s acts)]
  | _, [], _ => rfl
  | s, b :: r, a => by
    show (b, s) :: histA (stepA s b) (r ++ [a]) = (b, s) :: (histA (stepA s b) r ++ [(a, runS (stepA s b) r)])
    rw [histA_snoc]
theorem histA_acts : ∀ (s : StA) (acts : List Act), (histA s acts).map (·.1) = acts
  | _, [] => rfl
  | s, b :: r => by
    show b :: (histA (stepA s b) r).map (·.1) = b :: r
    rw [histA_acts]
theorem histA_len (s : StA) (acts : List Act) : (histA s acts).length = acts.length := by
  have := congrArg List.length (histA_acts s acts)
  rwa [List.length_map] at this
theorem actsV_at {c : Int} : ∀ {s : StA} {acts : List Act} {i : Nat} {a : Act}, ActsV c s acts → acts[i]? = some a → ActV c (runS s (acts.take i)).2.length a ∧ (runS s (acts.take i)).2.length ≤ 99
  | s, b :: r, 0, a, h, e => by
    cases e
    exact ⟨h.1, h.2.1⟩
  | s, b :: r, i + 1, a, h, e => actsV_at (s := stepA s b) (acts := r) h.2.2 e
  | s, [], i, a, _, e => by simp at e
theorem actsV_ok {c : Int} : ∀ (acts : List Act) {s : StA}, StV c s → ActsV c s acts → StV c (runS s acts)
  | [], _, hs, _ => hs
  | _ :: r, _, hs, h => actsV_ok r (stepA_ok hs h.1) h.2.2
theorem actsV_len {c : Int} : ∀ (acts : List Act) {s : StA}, s.2.length ≤ 100 → ActsV c s acts → (runS s acts).2.length ≤ 100
  | [], _, hs, _ => hs
  | a :: r, s, _, h => actsV_len r (s := stepA s a) (by have := stepA_len s a; have := h.2.1; omega) h.2.2
theorem actsV_app {c : Int} : ∀ {s : StA} {a b : List Act}, ActsV c s a → ActsV c (runS s a) b → ActsV c s (a ++ b)
  | _, [], _, _, h => h
  | _, _ :: _, _, h, h2 => ⟨h.1, h.2.1, actsV_app h.2.2 h2⟩
theorem runS_app (s : StA) (a b : List Act) : runS s (a ++ b) = runS (runS s a) b := List.foldl_append
theorem histA_app : ∀ (s : StA) (a b : List Act), histA s (a ++ b) = histA s a ++ histA (runS s a) b
  | _, [], _ => rfl
  | s, x :: r, b => by
    show (x, s) :: histA (stepA s x) (r ++ b) = (x, s) :: (histA (stepA s x) r ++ histA (runS (stepA s x) r) b)
    rw [histA_app]
theorem take_snoc {α : Type} {l : List α} {i : Nat} {a : α} (e : l[i]? = some a) : l.take (i + 1) = l.take i ++ [a] := by rw [List.take_succ, e]; rfl
end TP

namespace TP
open PySem PySem.Spec PyProof.Rows L2
theorem All2.snoc_inv {α β : Type} {R : α → β → Prop} {b : β} : ∀ {bs : List β} {as : List α}, All2 R as (bs ++ [b]) → ∃ as0 a, as = as0 ++ [a] ∧ All2 R as0 bs ∧ R a b
  | [], _, .cons x .nil => ⟨[], _, rfl, .nil, x⟩
  | _ :: bs, _, .cons x r => by
    obtain ⟨as0, a, e, h1, h2⟩ := All2.snoc_inv (bs := bs) r
    exact ⟨_ :: as0, a, by rw [e]; rfl, .cons x h1, h2⟩
theorem w_colAug {K : PySem.W.Frag} {mg : Str → Option Value} {H : Hp} {a dx : Addr} {c : Int} {B R P : V} {busy : Bool} {att : Int} {σ : L2.St} {De : Ends} (cl : ClsF K mg "Collector" colF) (h : H a = some (.ins (He.ga K "Collector") dx (colFl c B R P busy att))) (hv : σ[0]? = some (some (.ref a)))
    (q : De.nx σ (upd H a (.ins (He.ga K "Collector") dx (colFl c B R P busy (att + 1))))) : sFldAug K (tVar 0) (tC (.int 1)) rAdd "attempts" De σ H :=
  ⟨.ref a, hv, a, _, dx, _, .int att, rfl, h, cl.cls, cl.na _ (by decide), rfl, att, 1, rfl, rfl, dx, _, h, by show 6 < 1000; decide, q⟩
end TP

namespace TP
open PySem PySem.Spec PyProof.Rows L2
/-! ### == of entries: pairs of flat values, and Summaries by their own __eq__ -/
theorem rcG_own {X : Cx} {CX : CXT} {n : Nat} {C q : Str} {st : Stmt} {ps : List Str} {js : List Nat} {sp : Sp} {R : Addr → Addr → Hp → Prop} {E : XK} (F : HasMA X.prog X.w X.K X.mg X.base CX n C "__eq__" q st [] ps sp) (hb : BindJ "__eq__" q st ps 0 2 [] js)
    (hsp : ∀ (a b : Addr) (H : Hp) (Q : VK) (E : XK), R a b H → (∀ H', Ext H H' → Q (.bl true) H') → sp (pick js ([.ref a, .ref b] ++ [] ++ [])) H Q E) (hx : Passes CX X E) : RcG X n (DIns (He.ga X.K C) R) := by
  intro A pins s σ H x y u v sb I rx ry d
  obtain ⟨a, b, dx, dy, fs, gs, rfl, rfl, ha, hb', hr⟩ := d
  cases rx
  cases ry
  obtain ⟨fd, FD, G⟩ := F.ex
  obtain ⟨g, B⟩ := kbn FD hb
  obtain ⟨mA, J, _⟩ := ins_get I.hok ha
  obtain ⟨mB, J', _⟩ := ins_get I.hok hb'
  obtain ⟨od, J, _⟩ := J.look
  obtain ⟨od', J', _⟩ := J'.look
  obtain ⟨m, hF⟩ := I.fr
  refine PySem.W.cmp_K (op := .Eq) (tb := .ref (He.ga X.K C)) sb.room.units0 hF I.ok.mod.kin J J'.type (by simp [PySem.W.notFirst]) F.mt.at_ F.mt.fn ?_
  have hq := hsp a b H (fun v H' => v = .bl true ∧ Ext H H') E hr fun H' e => ⟨rfl, e⟩
  have e0 : Env0 X.prog X.w X.K X.mg X.base A X.stack s H := by
    have e := I.env0
    exact ⟨by rw [sb.fr]; exact e.frames, e.mod, e.bs, e.bsz, e.funs, e.frf, e.hok, e.bare⟩
  have r2 : Vals [V.ref a, V.ref b] [Value.ref a, Value.ref b] := .cons rfl (.cons rfl .nil)
  refine wpAny_call (codeAny_mono (G.run A X.stack s H ⟨[.ref a, .ref b], []⟩ _ _ _ E sb.room e0 (B.to s [.ref a, .ref b] [] I.kIn rfl rfl) (B.rel r2 .nil) hq) fun r s' hq => ?_)
  cases r with
  | error e => exact hx pins σ H s e s' I hq
  | ok fl =>
    cases fl with
    | ret w =>
      obtain ⟨z, H', I', rz, ez, ex⟩ := I.after hq
      subst ez
      cases rz
      exact ⟨rfl, H', I', ex⟩
    | next => exact False.elim hq
    | brk => exact False.elim hq
    | cont => exact False.elim hq
/-- two Summaries of the same data -/
def SumEq (K : PySem.W.Frag) (a b : Addr) (H : Hp) : Prop := ∃ c ps, SumO K H (.ref a) c ps ∧ SumV c ps ∧ SumO K H (.ref b) c ps
def DRow (K : PySem.W.Frag) : Eqv := fun x y H => DTup K DFlat x y H ∨ DIns (He.ga K "Summary") (SumEq K) x y H
theorem ext_same {H H' : Hp} (e : Ext H H') : Same H H' := fun b u h => e b u h
theorem mon_sumEq {K : PySem.W.Frag} : ∀ a b H H', Ext H H' → SumEq K a b H → SumEq K a b H' := fun a b H H' e ⟨c, ps, h1, hv, h2⟩ => ⟨c, ps, sum_same (ext_same e) h1, hv, sum_same (ext_same e) h2⟩
theorem mon_row {K : PySem.W.Frag} : Mon (DRow K) := (mon_tup mon_flat).or (mon_ins mon_sumEq)
/-- x == y of entries that are equal, or of data -/
def rRows (K : PySem.W.Frag) : R2 := fun x y H Q => rEqG (DTup K (DRow K)) x y H Q ∨ rEqD K x y H Q
theorem op_rows {X : Cx} {CX : CXT} {n : Nat} {q : Str} {st : Stmt} {ps : List Str} {js : List Nat} {sp : Sp} {E : XK} (K : PySem.W.Frag) (F : HasMA X.prog X.w K X.mg X.base CX n "Summary" "__eq__" q st [] ps sp) (hb : BindJ "__eq__" q st ps 0 2 [] js) (hn : 1 ≤ n)
    (hsp : ∀ (a b : Addr) (H : Hp) (Q : VK) (E : XK), SumEq K a b H → (∀ H', Ext H H' → Q (.bl true) H') → sp (pick js ([.ref a, .ref b] ++ [] ++ [])) H Q E) (hx : Passes CX X E) (hr : Room (n + 1) X.A) (hu : X.A.units + 64 < cLine) (hK : X.K = K := by rfl) : OpR X (compareOp .Eq) (rRows K) := by
  subst hK
  have h1 : EqG X n (DRow X.K) := ((eqG_tup mon_flat eqG_flat).mono hn).or ((rcG_own F hb hsp hx).eqG fun _ _ _ d => let ⟨a, b, _, _, _, _, hx, hy, _⟩ := d; ⟨a, b, hx, hy⟩)
  intro pins s σ H x y v u Q I rx ry h
  rcases h with h | h
  · exact op_eqG (rcG_tup mon_row h1) hr pins s σ H x y v u Q I rx ry h
  · exact op_eqD hu pins s σ H x y v u Q I rx ry h
/-- the same entries twice on the heap -/
theorem rows_eqG {K : PySem.W.Frag} {H : Hp} {c : Int} {R R' : V} {rows : List Row} (h : RowsO K H c R rows) (h' : RowsO K H c R' rows) (hv : ∀ r ∈ rows, RowV c r) : DTup K (DRow K) R R' H := by
  obtain ⟨T, xs, rfl, hT, hx⟩ := h
  obtain ⟨T', ys, rfl, hT', hy⟩ := h'
  refine ⟨T, T', xs, ys, rfl, rfl, hT, hT', by rw [hx.len, hy.len], fun i x y ex ey => ?_⟩
  obtain ⟨r, er, hr⟩ := hx.get ex
  obtain ⟨r', er', hr'⟩ := hy.get ey
  rw [er] at er'
  cases er'
  have hrv := hv r (List.mem_of_getElem? er)
  cases r with
  | run n m =>
    obtain ⟨P, rfl, hP⟩ := pair_inv hr
    obtain ⟨P', rfl, hP'⟩ := pair_inv hr'
    exact .inl ⟨P, P', _, _, rfl, rfl, hP, hP', rfl, fun j a b h1 h2 => by
      match j with
      | 0 => cases h1; cases h2; exact ⟨rfl, rfl, by simp [eqV]⟩
      | 1 => cases h1; cases h2; exact ⟨rfl, rfl, by simp [eqV]⟩
      | j + 2 => simp at h1⟩
  | sum qs =>
    obtain ⟨a, dx, b, rfl, h1, h2⟩ := id hr
    obtain ⟨a', dx', b', rfl, h1', h2'⟩ := id hr'
    exact .inr ⟨a, a', _, _, _, _, rfl, rfl, h1, h1', c, qs, ⟨a, dx, b, rfl, h1, h2⟩, hrv.1, ⟨a', dx', b', rfl, h1', h2'⟩⟩
theorem w_rowsEq {K : PySem.W.Frag} {H : Hp} {c : Int} {R R' : V} {rows : List Row} {Q : VK} (h : RowsO K H c R rows) (h' : RowsO K H c R' rows) (hv : ∀ r ∈ rows, RowV c r) (q : ∀ H', Same H H' → Q (.bl true) H') : rRows K R R' H Q := .inl ⟨rows_eqG h h' hv, fun H' e => q H' (ext_same e)⟩
/-- runs as entries -/
def runB (ps : Bag) : List Row := ps.map fun p => .run p.1 p.2
theorem runB_dp {K : PySem.W.Frag} {H : Hp} {c : Int} {R : V} {ps : Bag} (h : RowsO K H c R (runB ps)) : Dp K H R (bagD ps) := by
  obtain ⟨T, xs, rfl, hT, hx⟩ := h
  refine .tup hT ?_
  clear hT
  induction ps generalizing xs with
  | nil => cases hx; exact .nil
  | cons p r ih =>
    cases hx with
    | cons h1 h2 => exact .cons h1 (ih _ h2)
theorem runB_nam {c : Int} {ps : Bag} (h : ∀ r ∈ runB ps, RowV c r) : ∀ p ∈ ps, isName p.1 = true := fun p hp => (h (.run p.1 p.2) (List.mem_map_of_mem hp)).1
theorem w_rowsNe {K : PySem.W.Frag} {H : Hp} {c : Int} {R R' : V} {ps qs : Bag} {Q : VK} (h : RowsO K H c R (runB ps)) (h' : RowsO K H c R' (runB qs)) (hv : ∀ r ∈ runB ps, RowV c r) (hv' : ∀ r ∈ runB qs, RowV c r) (q : Q (.bl (decide (ps = qs))) H) : rRows K R R' H Q := .inr (w_eqB (runB_dp h) (runB_dp h') (runB_nam hv) (runB_nam hv') q)
end TP

namespace TP
open PySem PySem.Spec PyProof.Rows L2
/-! ### a heap without some of its lists -/
def Off (D : List Addr) (H : Hp) : Hp := fun b => if b ∈ D then none else H b
def Lsts (D : List Addr) (H : Hp) : Prop := ∀ d ∈ D, ∃ xs, H d = some (.lst xs)
section
variable {D : List Addr} {H H' G : Hp} {K : PySem.W.Frag}
theorem off_le : Same (Off D H) H := fun b o h => by
  unfold Off at h
  split at h
  · cases h
  · exact h
theorem off_same (s : Same H H') : Same (Off D H) (Off D H') := fun b o h => by
  unfold Off at h ⊢
  split at h
  · cases h
  · rename_i n
    rw [if_neg n]
    exact s b o h
theorem Lsts.same (h : Lsts D H) (s : Same H H') : Lsts D H' := fun d hd => let ⟨xs, e⟩ := h d hd; ⟨xs, s _ _ e⟩
theorem off_t (h : Lsts D H) : SameT H (Off D H) := fun a o e n _ => by
  unfold Off
  by_cases z : a ∈ D
  · obtain ⟨xs, ex⟩ := h a z
    rw [ex] at e
    cases e
    exact absurd rfl (n xs)
  · rw [if_neg z]; exact e
theorem off_get {e : Addr} (hn : e ∉ D) : Off D H e = H e := by unfold Off; rw [if_neg hn]
theorem off_new (h : Lsts D H) (s : Same H G) {e : Addr} (hn : G e = none) {o : HO} (e' : H' e = some o) : Off D H' e = some o := by
  rw [off_get fun z => by obtain ⟨xs, ex⟩ := h e z; rw [s _ _ ex] at hn; cases hn]
  exact e'
theorem off_upd {d : Addr} {o : HO} (hd : d ∈ D) : Off D (upd H d o) = Off D H := by
  funext b
  unfold Off
  by_cases z : b ∈ D
  · rw [if_pos z, if_pos z]
  · rw [if_neg z, if_neg z]
    exact upd_ne fun q => z (q ▸ hd)
/-- lists that are new: what stood before stands without them -/
theorem off_from (s : Same G H) (hn : ∀ d ∈ D, G d = none) : Same G (Off D H) := fun b o h => by
  rw [off_get fun z => by rw [hn b z] at h; cases h]
  exact s _ _ h
theorem actY_same {ys : List V} {a : Act} (s : Same H H') (h : ActY K H ys a) : ActY K H' ys a := by
  cases a with
  | merge qs => exact let ⟨l, e, h⟩ := h; ⟨l, e, dp_same s h⟩
  | start qs => exact let ⟨l, e, h⟩ := h; ⟨l, e, dp_same s h⟩
  | _ => exact h
end
/-! ### the states behind several actions -/
def statesA : StA → List Act → List StA
  | s, [] => [s]
  | s, a :: r => s :: statesA (stepA s a) r
theorem statesA_len : ∀ (s : StA) (acts : List Act), (statesA s acts).length = acts.length + 1
  | _, [] => rfl
  | s, a :: r => by show (statesA (stepA s a) r).length + 1 = _; rw [statesA_len]; rfl
theorem statesA_snoc : ∀ (s : StA) (acts : List Act) (a : Act), statesA s (acts ++ [a]) = statesA s acts ++ [stepA (runS s acts) a]
  | _, [], _ => rfl
  | s, b :: r, a => by
    show s :: statesA (stepA s b) (r ++ [a]) = s :: (statesA (stepA s b) r ++ [stepA (runS (stepA s b) r) a])
    rw [statesA_snoc]
theorem statesA_at : ∀ (s : StA) (acts : List Act) (i : Nat), i ≤ acts.length → (statesA s acts)[i]? = some (runS s (acts.take i))
  | s, [], i, h => by
    have : i = 0 := by simpa using h
    subst this; rfl
  | s, a :: r, 0, _ => rfl
  | s, a :: r, i + 1, h => by
    show (statesA (stepA s a) r)[i]? = _
    rw [statesA_at _ r i (by simpa using h)]
    rfl
theorem statesA_last (s : StA) (acts : List Act) : (statesA s acts)[acts.length]? = some (runS s acts) := by
  rw [statesA_at s acts acts.length (Nat.le_refl _), List.take_length]
theorem actsV_snoc {c : Int} {s : StA} {acts : List Act} {a : Act} (h : ActsV c s acts) (ha : ActV c (runS s acts).2.length a) (hl : (runS s acts).2.length ≤ 99) : ActsV c s (acts ++ [a]) := actsV_app h ⟨ha, hl, trivial⟩
theorem runS_len : ∀ (acts : List Act) (s : StA), (runS s acts).2.length ≤ s.2.length + acts.length
  | [], _ => Nat.le_refl _
  | a :: r, s => by
    have h1 := runS_len r (stepA s a)
    have h2 := stepA_len s a
    show (runS (stepA s a) r).2.length ≤ _
    simp only [List.length_cons]
    omega
theorem actsV_drop {c : Int} : ∀ (n : Nat) {s : StA} {acts : List Act}, ActsV c s acts → ActsV c (runS s (acts.take n)) (acts.drop n)
  | 0, _, _, h => h
  | n + 1, _, [], h => trivial
  | n + 1, s, a :: r, h => actsV_drop n (s := stepA s a) h.2.2
theorem actsV_take {c : Int} : ∀ (n : Nat) {s : StA} {acts : List Act}, ActsV c s acts → ActsV c s (acts.take n)
  | 0, _, _, _ => trivial
  | n + 1, _, [], h => trivial
  | n + 1, s, a :: r, h => ⟨h.1, h.2.1, actsV_take n h.2.2⟩
theorem runS_cut (s : StA) (acts : List Act) (n : Nat) : runS (runS s (acts.take n)) (acts.drop n) = runS s acts := by
  rw [← runS_app, List.take_append_drop]
theorem at_end {α : Type} {xs : List α} {v : α} {n : Nat} (hl : xs.length = n + 1) (h : xs[n]? = some v) : atI xs (-1) = some v := by
  have e : ixN xs.length (-1) = some n := by
    unfold ixN
    rw [if_neg (by decide), hl, if_pos (by omega)]
    congr 1
    omega
  unfold atI
  rw [e]; exact h
theorem deed_lst {K : PySem.W.Frag} {H : Hp} {R : Addr} {xs ys : List V} {v : V} {c : Int} {a : Act} (hR : H R = some (.lst xs)) (h : DeedO K H c v a) : DeedO K (upd H R (.lst ys)) c v a := by
  obtain ⟨T, w, rfl, hT, hw⟩ := h
  have hne : T ≠ R := fun z => by rw [z, hR] at hT; cases hT
  refine ⟨T, w, rfl, (upd_ne hne).trans hT, ?_⟩
  cases a with
  | merge qs => exact sum_lst hR hw
  | start qs => exact sum_lst hR hw
  | _ => trivial
/-- in all states behind the actions the runs' names are among these -/
def RunsW (ws : List Str) (s : StA) (acts : List Act) : Prop := ∀ i, i ≤ acts.length → RowsW ws (runS s (acts.take i)).2
theorem acts_mem {c : Int} : ∀ {s : StA} {acts : List Act} {a : Act}, ActsV c s acts → a ∈ acts → ∃ n, n ≤ 99 ∧ ActV c n a
  | s, b :: r, a, h, m => by
    rcases List.mem_cons.mp m with rfl | m
    · exact ⟨_, h.2.1, h.1⟩
    · exact acts_mem h.2.2 m
theorem runsW_snoc {ws : List Str} {s : StA} {acts : List Act} {a : Act} (h : RunsW ws s acts) (ha : ∀ x ∈ actN a, x ∈ ws) : RunsW ws s (acts ++ [a]) := fun i hi => by
  by_cases z : i ≤ acts.length
  · rw [List.take_append_of_le_length z]; exact h i z
  · have : i = (acts ++ [a]).length := by simp at hi ⊢; omega
    rw [this, List.take_length, runS_snoc]
    have h2 := h acts.length (Nat.le_refl _)
    rw [List.take_length] at h2
    exact rowsW_step h2 ha
theorem RunsW.last {ws : List Str} {s : StA} {acts : List Act} (h : RunsW ws s acts) : RowsW ws (runS s acts).2 := by
  have := h acts.length (Nat.le_refl _)
  rwa [List.take_length] at this
/-- the last of the actions, taken back -/
theorem hist_last {s : StA} {acts : List Act} {n : Nat} (h : n < acts.length) : ∃ a, acts[n]? = some a ∧ histA s (acts.take (n + 1)) = histA s (acts.take n) ++ [(a, runS s (acts.take n))] := by
  obtain ⟨a, ha⟩ : ∃ a, acts[n]? = some a := ⟨_, List.getElem?_eq_getElem h⟩
  exact ⟨a, ha, by rw [take_snoc ha, histA_snoc]⟩
theorem cutV_two {xs : List V} {a n : Nat} : cutV xs (some (a : Int)) (some (((a + n : Nat) : Int))) = (xs.drop a).take n := by
  show cutL xs _ _ = _
  unfold cutL
  rw [HT.sIx_nat, HT.sIx_nat]
  by_cases h : a + n ≤ xs.length
  · rw [Nat.min_eq_left (show a ≤ xs.length by omega), Nat.min_eq_left h, show a + n - a = n by omega]
  · by_cases h2 : a ≤ xs.length
    · rw [Nat.min_eq_left h2, Nat.min_eq_right (by omega)]
      rw [List.take_of_length_le (by simp), List.take_of_length_le (by simp; omega)]
    · rw [Nat.min_eq_right (by omega), Nat.min_eq_right (by omega)]
      rw [List.drop_of_length_le (Nat.le_refl _), List.drop_of_length_le (show xs.length ≤ a by omega)]
      simp
end TP

namespace TP
open PySem PySem.Spec PyProof.Rows L2
/-! ### what entries, counts and collectors show -/
def pairT (p : Str × Int) : Str := tupleText [reprText p.1, toString p.2]
def bagT (ps : Bag) : Str := tupleText (ps.map pairT)
def rowT (c : Int) : Row → Str
  | .run n m => pairT (n, m)
  | .sum qs => rText c qs
section
variable {RS : Hp → V → Str → Prop} {K : PySem.W.Frag} {H : Hp} {c : Int}
theorem pair_sw {v : V} {n : Str} {m : Int} (h : Dp K H v (pairD (n, m))) (hn : isName n = true) (h0 : 0 ≤ m) (h1 : m ≤ 10 ^ 100) : Sw K RS H v (pairT (n, m)) 1 ∧ (pairT (n, m)).length ≤ 3000 := by
  obtain ⟨P, rfl, hP⟩ := pair_inv h
  refine ⟨.tup hP (.cons (sw_nm hn) (.cons (sw_i h0 h1) .nil)), ?_⟩
  have hl := tupleText_len_le [reprText n, toString m]
  have q2 := repr_nm hn
  have q3 := intT_len (i := m) h0 h1
  simp only [List.map_cons, List.map_nil, List.sum_cons, List.sum_nil, List.length_cons, List.length_nil] at hl
  refine Nat.le_trans hl ?_
  omega
theorem bag_sws : ∀ {vs : List V} {ps : Bag}, DpAll K H vs (ps.map pairD) → BagS ps → ∃ d, d ≤ 1 ∧ SwAll K RS H vs (ps.map pairT) d ∧ ((ps.map pairT).map (·.length)).sum ≤ 3000 * ps.length
  | [], [], _, _ => ⟨0, by omega, .nil, Nat.le_refl _⟩
  | [], _ :: _, h, _ => by cases h
  | _ :: _, [], h, _ => by cases h
  | v :: vs, p :: ps, .cons h1 h2, hb => by
    obtain ⟨b1, b2, b3⟩ := hb p List.mem_cons_self
    obtain ⟨h3, h4⟩ := pair_sw (RS := RS) h1 b1 b2 b3
    obtain ⟨d, h5, h6, h7⟩ := bag_sws h2 fun q hq => hb q (List.mem_cons_of_mem _ hq)
    have h4 : (pairT p).length ≤ 3000 := h4
    refine ⟨_, ?_, .cons h3 h6, ?_⟩
    · show max 1 d ≤ 1; omega
    · simp only [List.map_cons, List.sum_cons, List.length_cons]
      omega
theorem bag_sw {v : V} {ps : Bag} (h : Dp K H v (bagD ps)) (hb : BagS ps) (hl : ps.length ≤ 12) : ∃ d, d ≤ 2 ∧ Sw K RS H v (bagT ps) d ∧ (bagT ps).length ≤ 40000 := by
  obtain ⟨a, xs, rfl, ha, hx⟩ := dp_tup_inv h
  obtain ⟨d, h1, h2, h3⟩ := bag_sws (RS := RS) hx hb
  refine ⟨d + 1, by omega, .tup ha h2, ?_⟩
  have h4 := tupleText_len_le (ps.map pairT)
  rw [List.length_map] at h4
  refine Nat.le_trans h4 ?_
  omega
theorem rows_sws (hown : ∀ v qs, SumO K H v c qs → SumV c qs → BagS qs → RS H v (rText c qs)) : ∀ {xs : List V} {rows : List Row}, All2 (RowO K H c) xs rows → (∀ r ∈ rows, RowV c r) → ∃ d, d ≤ 1 ∧ SwAll K RS H xs (rows.map (rowT c)) d ∧ ((rows.map (rowT c)).map (·.length)).sum ≤ 20000 * rows.length
  | _, _, .nil, _ => ⟨0, by omega, .nil, Nat.le_refl _⟩
  | _, _, .cons (b := r) h rs, hv => by
    obtain ⟨d, h3, h4, h5⟩ := rows_sws hown rs fun b hb => hv b (List.mem_cons_of_mem _ hb)
    have hr := hv r List.mem_cons_self
    obtain ⟨e, he, h1, h2⟩ : ∃ e, e ≤ 1 ∧ Sw K RS H _ (rowT c r) e ∧ (rowT c r).length ≤ 20000 := by
      cases r with
      | run n m =>
        obtain ⟨q1, q2⟩ := pair_sw (RS := RS) h hr.1 (by have := hr.2.1; omega) (Int.le_trans hr.2.2 pw32)
        exact ⟨1, Nat.le_refl _, q1, by show (pairT (n, m)).length ≤ 20000; omega⟩
      | sum qs =>
        have hs := Int.le_trans hr.2 pw36
        exact ⟨0, by omega, .own (hown _ _ h hr.1 (bag_s32 hr.1 hs)), sumT_len hr.1 hs⟩
    refine ⟨_, ?_, .cons h1 h4, ?_⟩
    · show max e d ≤ 1; omega
    · simp only [List.map_cons, List.sum_cons, List.length_cons]
      omega
theorem rows_sw (hown : ∀ v qs, SumO K H v c qs → SumV c qs → BagS qs → RS H v (rText c qs)) {v : V} {rows : List Row} (h : RowsO K H c v rows) (hv : ∀ r ∈ rows, RowV c r) (hl : rows.length ≤ 20) : ∃ d, d ≤ 2 ∧ Sw K RS H v (tupleText (rows.map (rowT c))) d ∧ (tupleText (rows.map (rowT c))).length ≤ 450000 := by
  obtain ⟨T, xs, rfl, hT, hx⟩ := h
  obtain ⟨d, h1, h2, h3⟩ := rows_sws hown hx hv
  refine ⟨d + 1, by omega, .tup hT h2, ?_⟩
  have h4 := tupleText_len_le (rows.map (rowT c))
  rw [List.length_map] at h4
  refine Nat.le_trans h4 ?_
  omega
theorem sum_sw (hown : ∀ v qs, SumO K H v c qs → SumV c qs → BagS qs → RS H v (rText c qs)) {v : V} {qs : Bag} (h : SumO K H v c qs) (hv : SumV c qs) (hs : sumC qs ≤ 10 ^ 36) : Sw K RS H v (rText c qs) 0 ∧ (rText c qs).length ≤ 20000 := ⟨.own (hown _ _ h hv (bag_s32 hv hs)), sumT_len hv hs⟩
end
/-- what a collector tells -/
def colT (c : Int) (n : Nat) : Str := ("Collector(" : Str) ++ intS c ++ (", " : Str) ++ intS (n : Nat) ++ (" entries)" : Str)
def ToldT (c : Int) (s s2 : StA) (t : Str) : Prop := ∃ ps, IsCan (fun n => posI (getT (tabOf (runsR s.2)) n)) ps ∧
  t = listText [toString c, rText c s.1, tupleText (s.2.map (rowT c)), rText c (nowT c s.1 s.2), bagT ps, toString ((s.2.length : Nat) : Int), reprText (cText (nowT c s.1 s.2)), reprText (colT c s.2.length), rText c (nowT c s2.1 s2.2)]
theorem colT_ok (c : Int) (n : Nat) : okS (colT c n) := okS_app (okS_app (okS_app (okS_app (okS_of _) (okS_of _)) (okS_of _)) (okS_of _)) (okS_of _)
theorem colT_len {c : Int} {n : Nat} (c1 : 0 ≤ c) (c8 : c ≤ 8) (hn : n ≤ 1000) : (colT c n).length ≤ 3900 := by
  have h1 := intS_len (i := c) c1 (Int.le_trans c8 (by decide))
  have h2 := intS_len (i := ((n : Nat) : Int)) (by omega) (ix100 (Nat.le_refl n) hn)
  have l1 : Str.length ("Collector(" : Str) = 10 := by decide +kernel
  have l2 : Str.length (", " : Str) = 2 := by decide +kernel
  have l3 : Str.length (" entries)" : Str) = 9 := by decide +kernel
  unfold colT
  rw [app_len, app_len, app_len, app_len, l1, l2, l3]
  omega
theorem told_sw {RS : Hp → V → Str → Prop} {K : PySem.W.Frag} {H : Hp} {c : Int} {s s2 : StA} {L : Addr} {v1 v2 v3 v4 v5 : V} {ps : Bag} (hown : ∀ v qs, SumO K H v c qs → SumV c qs → BagS qs → RS H v (rText c qs)) (hs : StV c s) (hl : s.2.length ≤ 12)
    (h1 : SumO K H v1 c s.1) (h2 : RowsO K H c v2 s.2) (h3 : SumO K H v3 c (nowT c s.1 s.2)) (h3v : SumV c (nowT c s.1 s.2)) (h3s : sumC (nowT c s.1 s.2) ≤ 10 ^ 36) (h4 : Dp K H v4 (bagD ps)) (h4s : BagS ps) (h4l : ps.length ≤ 12) (h4c : IsCan (fun n => posI (getT (tabOf (runsR s.2)) n)) ps)
    (h5 : SumO K H v5 c (nowT c s2.1 s2.2)) (h5v : SumV c (nowT c s2.1 s2.2)) (h5s : sumC (nowT c s2.1 s2.2) ≤ 10 ^ 36)
    (hL : H L = some (.lst [.int c, v1, v2, v3, v4, .int ((s.2.length : Nat) : Int), .str (cText (nowT c s.1 s.2)), .str (colT c s.2.length), v5])) :
    ∃ t d, ToldT c s s2 t ∧ Sw K RS H (.ref L) t d ∧ d ≤ 5 ∧ t.length ≤ 1000000 := by
  have c1 := hs.1.c1
  have c8 := hs.1.c8
  obtain ⟨q1, l1⟩ := sum_sw hown h1 hs.1 (Int.le_trans hs.2.1 pw36)
  obtain ⟨d2, e2, q2, l2⟩ := rows_sw hown h2 hs.2.2 (by omega)
  obtain ⟨q3, l3⟩ := sum_sw hown h3 h3v h3s
  obtain ⟨d4, e4, q4, l4⟩ := bag_sw (RS := RS) h4 h4s h4l
  obtain ⟨q5, l5⟩ := sum_sw hown h5 h5v h5s
  have hnb := bag_s32 h3v h3s
  have hx1 := repr_le (okS_cText hnb)
  have hx2 := cText_len hnb
  have hx3 := h3v.len
  have hy1 := repr_le (colT_ok c s.2.length)
  have hy2 := colT_len (c := c) (n := s.2.length) (by omega) c8 (by omega)
  have hi1 := intT_len (i := c) (by omega) (Int.le_trans c8 (by decide))
  have hi2 := intT_len (i := ((s.2.length : Nat) : Int)) (by omega) (ix100 (Nat.le_refl _) (by omega))
  refine ⟨_, _, ⟨ps, h4c, rfl⟩, .lst hL (.cons (sw_i (by omega) (Int.le_trans c8 (by decide))) (.cons q1 (.cons q2 (.cons q3 (.cons q4 (.cons (sw_i (by omega) (ix100 (Nat.le_refl _) (by omega))) (.cons (.str _ (sz1 (by omega))) (.cons (.str _ (sz1 (by omega))) (.cons q5 .nil))))))))), ?_, ?_⟩
  · omega
  · refine Nat.le_trans (listText_len_le _) ?_
    simp only [List.map_cons, List.map_nil, List.sum_cons, List.sum_nil, List.length_cons, List.length_nil]
    omega
theorem told_uq {c : Int} {s s2 : StA} {t t' : Str} (h : ToldT c s s2 t) (h' : ToldT c s s2 t') : t = t' := by
  obtain ⟨ps, h1, rfl⟩ := h
  obtain ⟨qs, h2, rfl⟩ := h'
  rw [can_unique h1 h2]
end TP

namespace TP
open PySem PySem.Spec PyProof.Rows L2
/-- a collector of this capacity and state -/
def ColE (K : PySem.W.Frag) (H : Hp) (c : Int) (s : StA) (v : V) : Prop := ∃ (a dx : Addr) (past : List (Act × StA)) (busy : Bool) (att : Int) (B R P : V), v = .ref a ∧ ColO K H a c s past busy att dx B R P
theorem ColE.same {K : PySem.W.Frag} {H H' : Hp} {c : Int} {s : StA} {v : V} (h : ColE K H c s v) (t : Same H H') : ColE K H' c s v := by
  obtain ⟨a, dx, past, busy, att, B, R, P, rfl, ho⟩ := h
  exact ⟨a, dx, past, busy, att, B, R, P, rfl, ho.same t⟩
theorem w_cmpCol {K : PySem.W.Frag} {mg : Str → Option Value} {H : Hp} {Q : VK} {a b dx dy : Addr} {c c' : Int} {s s' : StA} {past past' : List (Act × StA)} {busy busy' : Bool} {att att' : Int} {B R P B' R' P' : V} {sp : Sp} {js : List Nat} {E : XK} {neg : Bool} (cl : ClsF K mg "Collector" colF) (h : ColO K H a c s past busy att dx B R P) (h' : ColO K H b c' s' past' busy' att' dy B' R' P')
    (q : sp (pick js ([.ref a, .ref b] ++ [] ++ [])) H (fun v H' => ∃ c : Bool, v = .bl c ∧ Q (.bl (if neg then !c else c)) H') E) : rCmpO K neg (He.ga K "Collector") sp js E (.ref a) (.ref b) H Q :=
  ⟨a, dx, _, _, rfl, h.ins, .base (.ins h'.ins cl.cls cl.i1 cl.i2 cl.i3 cl.i4), .inl rfl, q⟩
theorem ColO.beside {K : PySem.W.Frag} {H H' : Hp} {a b dx : Addr} {c : Int} {s : StA} {past : List (Act × StA)} {busy : Bool} {att : Int} {B R P : V} (h : ColO K H b c s past busy att dx B R P) (hne : b ≠ a) (sb : SameB a H H') (sc : SameC H H') : ColO K H' b c s past busy att dx B R P := ⟨sb _ _ hne h.ins, sum_c sc h.beg, rowsO_c sc h.rows, pastO_c sc h.past⟩
theorem same_bn {H H1 H2 : Hp} {a : Addr} (s : Same H H1) (sb : SameB a H1 H2) (e : H a = none) : Same H H2 := fun b u h => sb b u (fun z => by rw [z, e] at h; cases h) (s b u h)
theorem colO_some {K : PySem.W.Frag} {H : Hp} {a dx : Addr} {c : Int} {s : StA} {past : List (Act × StA)} {busy : Bool} {att : Int} {B R P : V} (h : ColO K H a c s past busy att dx B R P) : H a ≠ none := fun z => by rw [h.ins] at z; cases z
/-- what a law keeps beside its collectors -/
structure EnvA (K : PySem.W.Frag) (H : Hp) (p wa LP LS T : Addr) (ws : List Str) (ps ss xs : List V) (c : Int) (s : StA) (acts : List Act) : Prop where
  pool : H p = some (poolO p)
  wa : SqL K H wa (ws.map V.str)
  lp : H LP = some (.lst ps)
  ps : DpAll K H ps (acts.map actD)
  ls : H LS = some (.lst ss)
  ss : All2 (StL K H) ss (statesA s acts)
  tup : H T = some (.tup xs)
  xs : All2 (DeedO K H c) xs acts
theorem EnvA.c {K : PySem.W.Frag} {H H' : Hp} {p wa LP LS T : Addr} {ws : List Str} {ps ss xs : List V} {c : Int} {s : StA} {acts : List Act} (h : EnvA K H p wa LP LS T ws ps ss xs c s acts) (t : SameC H H') : EnvA K H' p wa LP LS T ws ps ss xs c s acts :=
  ⟨pool_c t h.pool, sql_c t h.wa, lst_c t h.lp, dps_c t h.ps, lst_c t h.ls, h.ss.imp fun _ _ q => q.c t, tup_c t h.tup, h.xs.imp fun _ _ q => deedO_c t q⟩
theorem EnvA.same {K : PySem.W.Frag} {H H' : Hp} {p wa LP LS T : Addr} {ws : List Str} {ps ss xs : List V} {c : Int} {s : StA} {acts : List Act} (h : EnvA K H p wa LP LS T ws ps ss xs c s acts) (t : Same H H') : EnvA K H' p wa LP LS T ws ps ss xs c s acts := h.c (SameC.of t)
/-- a new collector in a list that grows -/
theorem colO_lst {K : PySem.W.Frag} {H : Hp} {D a dx : Addr} {c : Int} {b : Bag} {busy : Bool} {att : Int} {B R P : V} {xs ys : List V} (h : ColO K H a c (b, []) [] busy att dx B R P) (hD : H D = some (HO.lst xs)) : ColO K (upd H D (HO.lst ys)) a c (b, []) [] busy att dx B R P := by
  have hne : a ≠ D := fun z => by have := h.ins; rw [z, hD] at this; cases this
  obtain ⟨T, us, e1, h1, h2⟩ := h.rows
  obtain ⟨T', us', e1', h1', h2'⟩ := h.past
  cases h2
  cases h2'
  exact ⟨(upd_ne hne).trans h.ins, sum_lst hD h.beg, ⟨T, [], e1, (SameT.lst hD).sqt h1, .nil⟩, ⟨T', [], e1', (SameT.lst hD).sqt h1', .nil⟩⟩
/-- what is told of new collectors -/
def ColN (K : PySem.W.Frag) (H : Hp) (c : Int) (a : Addr) : Prop := ∃ (dx : Addr) (B R P : V), ColO K H a c ([], []) [] false 0 dx B R P
/-- a new collector as an expression of a comprehension: its elements are different objects -/
def AccN (K : PySem.W.Frag) (H0 : Hp) (c : Int) (i : Nat) (acc : List V) (H : Hp) : Prop := ∃ as : List Addr, acc = as.map V.ref ∧ as.length = i ∧ as.Nodup ∧ ∀ a ∈ as, ColN K H c a ∧ H0 a = none
end TP


namespace TP
open PySem PySem.Spec PyProof.Rows L2 LamX
local macro_rules | `(tactic| tm_at "side") => `(tactic| first | decide | omega | assumption | (unfold CMul; omega) | (unfold CDiv; omega) | (unfold CPow; omega))
local macro_rules | `(tactic| tm_at "heap") => `(tactic| first | assumption | exact upd_same | (refine hp_new ?_ (by assumption); tm_at "heap") | (refine hp_same (by assumption) ?_; tm_at "heap"))
local macro_rules | `(tactic| tm_at "same") => `(tactic| first | assumption | exact Same.refl _ | (refine same_step ?_ (by assumption); tm_at "same") | (refine Same.trans ?_ (by assumption); tm_at "same"))
local macro_rules | `(tactic| tm_at "sqt") => `(tactic| first | assumption | (refine SqT.of ?_; tm_at "heap") | (refine sqt_same (same_new (by assumption)) ?_; tm_at "sqt") | (refine sqt_same (by assumption) ?_; tm_at "sqt"))
local macro_rules | `(tactic| tm_at "sql") => `(tactic| first | assumption | (refine SqL.of ?_; tm_at "heap") | (refine Same.seq (same_new (by assumption)) ?_; tm_at "sql") | (refine Same.seq (by assumption) ?_; tm_at "sql"))
local macro_rules | `(tactic| tm_at "dp") => `(tactic| first | assumption | exact Dp.int _ | exact Dp.str _ | exact Dp.bl _ | exact Dp.non | (refine dp_same (same_new (by assumption)) ?_; tm_at "dp") | (refine dp_same (by assumption) ?_; tm_at "dp"))
local macro_rules | `(tactic| tm_at "sumo") => `(tactic| first | assumption | (refine sum_same (same_new (by assumption)) ?_; tm_at "sumo") | (refine sum_same (by assumption) ?_; tm_at "sumo"))
local macro_rules | `(tactic| tm_at "h") => `(tactic| with_reducible first | (exact SqL.of (by with_reducible_and_instances tm_at "heap")) | tm_at "heap" | tm_at "dp" | tm_at "sumo" | tm_at "sql" | tm_at "sqt" | tm_at "same")
local macro_rules | `(tactic| tm_at "wp1") => `(tactic| with_reducible first
  | refine w_seq ?_ | refine w_asg ?_ | refine w_c ?_ | refine w_op ?_ | refine w_cons ?_ | refine w_nil ?_ | refine w_gname ?_ | refine w_nx ?_ | refine w_rt ?_ | refine w_I0 ?_
  | refine w_eqI ?_ | refine w_neI ?_ | refine w_eqS ?_ | refine w_neS ?_ | refine w_neBl ?_ | refine w_eqBl ?_ | refine w_CB ?_ | refine w_call ?_ | refine w_tcallW ?_ | refine w_bl ?_ | refine w_ret ?_ | refine w_retN ?_ | refine w_ifS ?_
  | refine w_test ?_ | refine w_B ?_ | refine w_andV ?_ | refine w_orV ?_ | refine w_notV ?_ | refine w_if ?_ | refine w_and ?_ | refine w_or ?_ | refine w_not ?_ | refine w_chain ?_ | refine w_iteT ?_ | refine w_iteF ?_ | refine w_nott ?_ | refine w_notf ?_
  | refine w_next ?_ | refine w_tup ?_ | refine w_lst ?_ | refine w_gcons ?_ | refine w_gnil ?_ | refine w_gsub ?_ | refine w_drop ?_ | refine w_tpar ?_ | refine w_tpar3 ?_ | refine w_p2 ?_ | refine w_p3 ?_ | refine w_un ?_ | refine w_U ?_
  | refine w_break ?_ | refine w_cont ?_ | refine w_bk ?_ | refine w_ct ?_ | refine w_isB ?_ | refine w_notB ?_ | refine w_BM ?_ | refine w_BM0 ?_ | refine w_sl ?_ | refine w_nopart ?_ | refine w_tpart ?_ | refine w_intC ?_ | refine w_M1 ?_ | refine w_strx ?_
  | refine w_for ?_ | refine w_lc ?_ | refine w_yes ?_ | refine w_iTup ?_ | refine w_iList ?_ | refine w_iStr ?_ | refine w_iRng1 ?_ | refine w_iRng2 ?_ | refine w_iEnumT ?_ | refine w_onS ?_
  | refine w_abs ?_ | refine w_mx3 ?_ | refine w_mn3 ?_ | refine w_iZip ?_ | refine w_sc ?_ | refine w_mx2 ?_ | refine w_mn2 ?_ | refine w_int1 ?_ | refine w_intB ?_ | refine w_inSign ?_ | refine w_notInSign ?_ | refine w_isNN ?_ | refine w_isNI ?_ | refine w_isNR ?_ | refine w_isN ?_ | refine w_notNN ?_ | refine w_notNI ?_ | refine w_notNR ?_ | refine w_notN ?_ | refine w_ltS ?_ | refine w_leS ?_
  | refine w_fmt ?_ | refine w_joined ?_ | refine w_jcons ?_ | refine w_jnil ?_ | refine w_strS ?_ | refine w_orT ?_ | refine w_andT ?_ | refine w_dput ?_ | refine w_ckw ?_ | refine w_fldN ?_ | refine w_sfld ?_ | refine w_mtN ?_ | refine w_mkN ?_ | refine w_din ?_ | refine w_dnotin ?_ | refine w_iKeys ?_ | refine w_dc ?_ | refine w_whc ?_ | refine w_dget ?_ | refine w_tru ?_ | refine w_truB ?_ | refine w_truI ?_ | refine w_stepT2 ?_ | refine w_dget2 ?_ | refine w_ddel ?_ | refine w_daug ?_ | refine w_dpop1 ?_ | refine w_revL ?_ | refine w_ipI ?_
  | (refine' w_var ?h1 ?_; (case h1 => (with_unfolding_all exact rfl)))
  | (refine' w_aug ?h1 ?_; (case h1 => (with_unfolding_all exact rfl)))
  | (refine w_I ?h1 ?_; (try (case h1 => (with_unfolding_all tm_at "side"))))
  | (refine w_allocT ?h1 ?_; (case h1 => (with_unfolding_all exact rfl)); intro p hp) | (refine w_allocL ?h1 ?_; (case h1 => (with_unfolding_all exact rfl)); intro p hp)
  | (refine w_dnewK ?_; intro p hp)
  | (refine w_lenC ?h1 ?h2 ?_; (case h1 => (with_unfolding_all exact rfl)); (case h2 => (with_unfolding_all exact rfl)))
  | (refine w_kwC ?h1 ?h2 ?_; (case h1 => (with_unfolding_all exact rfl)); (case h2 => (with_unfolding_all exact rfl))))
local macro_rules | `(tactic| tm_at "wp") => `(tactic| repeat' (tm_at "wp1"))
local macro_rules | `(tactic| tm_at "wq1") => `(tactic| with_reducible first
  | refine w_asg ?_ | refine w_c ?_ | refine w_op ?_ | refine w_cons ?_ | refine w_nil ?_ | refine w_gname ?_ | refine w_nx ?_ | refine w_rt ?_ | refine w_I0 ?_
  | refine w_eqI ?_ | refine w_neI ?_ | refine w_eqS ?_ | refine w_neS ?_ | refine w_neBl ?_ | refine w_eqBl ?_ | refine w_CB ?_ | refine w_call ?_ | refine w_tcallW ?_ | refine w_bl ?_ | refine w_ret ?_ | refine w_retN ?_ | refine w_ifS ?_
  | refine w_test ?_ | refine w_B ?_ | refine w_andV ?_ | refine w_orV ?_ | refine w_notV ?_ | refine w_if ?_ | refine w_and ?_ | refine w_or ?_ | refine w_not ?_ | refine w_chain ?_ | refine w_iteT ?_ | refine w_iteF ?_ | refine w_nott ?_ | refine w_notf ?_
  | refine w_next ?_ | refine w_tup ?_ | refine w_lst ?_ | refine w_gcons ?_ | refine w_gnil ?_ | refine w_gsub ?_ | refine w_drop ?_ | refine w_tpar ?_ | refine w_tpar3 ?_ | refine w_p2 ?_ | refine w_p3 ?_ | refine w_un ?_ | refine w_U ?_
  | refine w_break ?_ | refine w_cont ?_ | refine w_bk ?_ | refine w_ct ?_ | refine w_isB ?_ | refine w_notB ?_ | refine w_BM ?_ | refine w_BM0 ?_ | refine w_sl ?_ | refine w_nopart ?_ | refine w_tpart ?_ | refine w_intC ?_ | refine w_M1 ?_ | refine w_strx ?_
  | refine w_for ?_ | refine w_lc ?_ | refine w_yes ?_ | refine w_iTup ?_ | refine w_iList ?_ | refine w_iStr ?_ | refine w_iRng1 ?_ | refine w_iRng2 ?_ | refine w_iEnumT ?_ | refine w_onS ?_
  | refine w_abs ?_ | refine w_mx3 ?_ | refine w_mn3 ?_ | refine w_iZip ?_ | refine w_sc ?_ | refine w_mx2 ?_ | refine w_mn2 ?_ | refine w_int1 ?_ | refine w_intB ?_ | refine w_inSign ?_ | refine w_notInSign ?_ | refine w_isNN ?_ | refine w_isNI ?_ | refine w_isNR ?_ | refine w_isN ?_ | refine w_notNN ?_ | refine w_notNI ?_ | refine w_notNR ?_ | refine w_notN ?_ | refine w_ltS ?_ | refine w_leS ?_
  | refine w_fmt ?_ | refine w_joined ?_ | refine w_jcons ?_ | refine w_jnil ?_ | refine w_strS ?_ | refine w_orT ?_ | refine w_andT ?_ | refine w_dput ?_ | refine w_ckw ?_ | refine w_fldN ?_ | refine w_sfld ?_ | refine w_mtN ?_ | refine w_mkN ?_ | refine w_din ?_ | refine w_dnotin ?_ | refine w_iKeys ?_ | refine w_dc ?_ | refine w_whc ?_ | refine w_dget ?_ | refine w_tru ?_ | refine w_truB ?_ | refine w_truI ?_ | refine w_stepT2 ?_ | refine w_dget2 ?_ | refine w_ddel ?_ | refine w_daug ?_ | refine w_dpop1 ?_ | refine w_revL ?_ | refine w_ipI ?_
  | (refine' w_var ?h1 ?_; (case h1 => (with_unfolding_all exact rfl)))
  | (refine' w_aug ?h1 ?_; (case h1 => (with_unfolding_all exact rfl)))
  | (refine w_I ?h1 ?_; (try (case h1 => (with_unfolding_all tm_at "side"))))
  | (refine w_allocT ?h1 ?_; (case h1 => (with_unfolding_all exact rfl)); intro p hp) | (refine w_allocL ?h1 ?_; (case h1 => (with_unfolding_all exact rfl)); intro p hp)
  | (refine w_dnewK ?_; intro p hp)
  | (refine w_lenC ?h1 ?h2 ?_; (case h1 => (with_unfolding_all exact rfl)); (case h2 => (with_unfolding_all exact rfl)))
  | (refine w_kwC ?h1 ?h2 ?_; (case h1 => (with_unfolding_all exact rfl)); (case h2 => (with_unfolding_all exact rfl))))
local macro_rules | `(tactic| tm_at "wq") => `(tactic| repeat' (tm_at "wq1"))
local macro_rules | `(tactic| tm_at "wx") => `(tactic| with_reducible repeat' (first | refine w_gname ?_ | refine w_next ?_ | refine w_nx ?_))
local macro_rules | `(tactic| tm_at "held") => `(tactic| first | assumption | (refine held_same (by assumption) ?_; tm_at "held"))
local macro_rules | `(tactic| tm_at "wk") => `(tactic| repeat' (first | (refine w_allocLG ?h1 ?_; (case h1 => (with_unfolding_all exact rfl)); intro p G sg hp) | tm_at "wp1" | (refine w_isP (by assumption) (by assumption) (by tm_at "held") (by decide +kernel) ?_)))
local macro_rules | `(tactic| tm_at "vp1") => `(tactic| with_reducible first
  | refine w_seq ?_ | refine w_asg ?_ | refine w_c ?_ | refine w_op ?_ | refine w_cons ?_ | refine w_nil ?_ | refine w_gnameN (by first | (with_reducible_and_instances simp only [List.set_cons_zero, List.set_cons_succ]; apply Eq.refl) | apply Eq.refl) ?_ | refine w_gname ?_ | refine w_setN (by first | (with_reducible_and_instances simp only [List.set_cons_zero, List.set_cons_succ]; apply Eq.refl) | apply Eq.refl) ?_ | refine w_I0 ?_
  | refine w_eqI ?_ | refine w_neI ?_ | refine w_eqS ?_ | refine w_neS ?_ | refine w_neBl ?_ | refine w_eqBl ?_ | refine w_CB ?_ | refine w_call ?_ | refine w_tcallW ?_ | refine w_bl ?_ | refine w_ret ?_ | refine w_retN ?_ | refine w_ifS ?_
  | refine w_test ?_ | refine w_B ?_ | refine w_andV ?_ | refine w_orV ?_ | refine w_notV ?_ | refine w_if ?_ | refine w_and ?_ | refine w_or ?_ | refine w_not ?_ | refine w_chain ?_ | refine w_iteT ?_ | refine w_iteF ?_ | refine w_nott ?_ | refine w_notf ?_
  | refine w_next ?_ | refine w_tup ?_ | refine w_lst ?_ | refine w_gcons ?_ | refine w_gnil ?_ | refine w_gsub ?_ | refine w_drop ?_ | refine w_tparN ?_ | refine w_tpar3N ?_ | refine w_tpar ?_ | refine w_tpar3 ?_ | refine w_p2 ?_ | refine w_p3 ?_ | refine w_un ?_ | refine w_U ?_
  | refine w_break ?_ | refine w_cont ?_ | refine w_isB ?_ | refine w_notB ?_ | refine w_BM ?_ | refine w_BM0 ?_ | refine w_sl ?_ | refine w_nopart ?_ | refine w_tpart ?_ | refine w_intC ?_ | refine w_M1 ?_ | refine w_strx ?_
  | refine w_for ?_ | refine w_lc ?_ | refine w_yes ?_ | refine w_iTup ?_ | refine w_iList ?_ | refine w_iStr ?_ | refine w_iRng1 ?_ | refine w_iRng2 ?_ | refine w_iEnumT ?_ | refine w_onS ?_
  | refine w_abs ?_ | refine w_mx3 ?_ | refine w_mn3 ?_ | refine w_iZip ?_ | refine w_sc ?_ | refine w_mx2 ?_ | refine w_mn2 ?_ | refine w_int1 ?_ | refine w_intB ?_ | refine w_inSign ?_ | refine w_notInSign ?_ | refine w_isNN ?_ | refine w_isNI ?_ | refine w_isNR ?_ | refine w_isN ?_ | refine w_notNN ?_ | refine w_notNI ?_ | refine w_notNR ?_ | refine w_notN ?_ | refine w_ltS ?_ | refine w_leS ?_
  | refine w_fmt ?_ | refine w_joined ?_ | refine w_jcons ?_ | refine w_jnil ?_ | refine w_strS ?_ | refine w_orT ?_ | refine w_andT ?_ | refine w_dput ?_ | refine w_ckw ?_ | refine w_fldN ?_ | refine w_sfld ?_ | refine w_mtN ?_ | refine w_mkN ?_ | refine w_din ?_ | refine w_dnotin ?_ | refine w_iKeys ?_ | refine w_dc ?_ | refine w_whc ?_ | refine w_dget ?_ | refine w_tru ?_ | refine w_truB ?_ | refine w_truI ?_ | refine w_stepT2 ?_ | refine w_dget2 ?_ | refine w_ddel ?_ | refine w_daug ?_ | refine w_dpop1 ?_ | refine w_revL ?_ | refine w_ipI ?_
  | (refine' w_var ?h1 ?_; (case h1 => (with_unfolding_all exact rfl)))
  | (refine' w_augN ?h1 ?_; (case h1 => (with_unfolding_all exact rfl))) | (refine' w_aug ?h1 ?_; (case h1 => (with_unfolding_all exact rfl)))
  | (refine w_I ?h1 ?_; (try (case h1 => (with_unfolding_all tm_at "side"))))
  | (refine w_allocT ?h1 ?_; (case h1 => (with_unfolding_all exact rfl)); intro p hp) | (refine w_allocL ?h1 ?_; (case h1 => (with_unfolding_all exact rfl)); intro p hp)
  | (refine w_dnewK ?_; intro p hp)
  | (refine w_lenC ?h1 ?h2 ?_; (case h1 => (with_unfolding_all exact rfl)); (case h2 => (with_unfolding_all exact rfl)))
  | (refine w_kwC ?h1 ?h2 ?_; (case h1 => (with_unfolding_all exact rfl)); (case h2 => (with_unfolding_all exact rfl))))
local macro_rules | `(tactic| tm_at "vp") => `(tactic| repeat' (tm_at "vp1"))
local macro_rules | `(tactic| tm_at "vq1") => `(tactic| with_reducible first
  | refine w_asg ?_ | refine w_c ?_ | refine w_op ?_ | refine w_cons ?_ | refine w_nil ?_ | refine w_gnameN (by first | (with_reducible_and_instances simp only [List.set_cons_zero, List.set_cons_succ]; apply Eq.refl) | apply Eq.refl) ?_ | refine w_gname ?_ | refine w_setN (by first | (with_reducible_and_instances simp only [List.set_cons_zero, List.set_cons_succ]; apply Eq.refl) | apply Eq.refl) ?_ | refine w_I0 ?_
  | refine w_eqI ?_ | refine w_neI ?_ | refine w_eqS ?_ | refine w_neS ?_ | refine w_neBl ?_ | refine w_eqBl ?_ | refine w_CB ?_ | refine w_call ?_ | refine w_tcallW ?_ | refine w_bl ?_ | refine w_ret ?_ | refine w_retN ?_ | refine w_ifS ?_
  | refine w_test ?_ | refine w_B ?_ | refine w_andV ?_ | refine w_orV ?_ | refine w_notV ?_ | refine w_if ?_ | refine w_and ?_ | refine w_or ?_ | refine w_not ?_ | refine w_chain ?_ | refine w_iteT ?_ | refine w_iteF ?_ | refine w_nott ?_ | refine w_notf ?_
  | refine w_next ?_ | refine w_tup ?_ | refine w_lst ?_ | refine w_gcons ?_ | refine w_gnil ?_ | refine w_gsub ?_ | refine w_drop ?_ | refine w_tparN ?_ | refine w_tpar3N ?_ | refine w_tpar ?_ | refine w_tpar3 ?_ | refine w_p2 ?_ | refine w_p3 ?_ | refine w_un ?_ | refine w_U ?_
  | refine w_break ?_ | refine w_cont ?_ | refine w_isB ?_ | refine w_notB ?_ | refine w_BM ?_ | refine w_BM0 ?_ | refine w_sl ?_ | refine w_nopart ?_ | refine w_tpart ?_ | refine w_intC ?_ | refine w_M1 ?_ | refine w_strx ?_
  | refine w_for ?_ | refine w_lc ?_ | refine w_yes ?_ | refine w_iTup ?_ | refine w_iList ?_ | refine w_iStr ?_ | refine w_iRng1 ?_ | refine w_iRng2 ?_ | refine w_iEnumT ?_ | refine w_onS ?_
  | refine w_abs ?_ | refine w_mx3 ?_ | refine w_mn3 ?_ | refine w_iZip ?_ | refine w_sc ?_ | refine w_mx2 ?_ | refine w_mn2 ?_ | refine w_int1 ?_ | refine w_intB ?_ | refine w_inSign ?_ | refine w_notInSign ?_ | refine w_isNN ?_ | refine w_isNI ?_ | refine w_isNR ?_ | refine w_isN ?_ | refine w_notNN ?_ | refine w_notNI ?_ | refine w_notNR ?_ | refine w_notN ?_ | refine w_ltS ?_ | refine w_leS ?_
  | refine w_fmt ?_ | refine w_joined ?_ | refine w_jcons ?_ | refine w_jnil ?_ | refine w_strS ?_ | refine w_orT ?_ | refine w_andT ?_ | refine w_dput ?_ | refine w_ckw ?_ | refine w_fldN ?_ | refine w_sfld ?_ | refine w_mtN ?_ | refine w_mkN ?_ | refine w_din ?_ | refine w_dnotin ?_ | refine w_iKeys ?_ | refine w_dc ?_ | refine w_whc ?_ | refine w_dget ?_ | refine w_tru ?_ | refine w_truB ?_ | refine w_truI ?_ | refine w_stepT2 ?_ | refine w_dget2 ?_ | refine w_ddel ?_ | refine w_daug ?_ | refine w_dpop1 ?_ | refine w_revL ?_ | refine w_ipI ?_
  | (refine' w_var ?h1 ?_; (case h1 => (with_unfolding_all exact rfl)))
  | (refine' w_augN ?h1 ?_; (case h1 => (with_unfolding_all exact rfl))) | (refine' w_aug ?h1 ?_; (case h1 => (with_unfolding_all exact rfl)))
  | (refine w_I ?h1 ?_; (try (case h1 => (with_unfolding_all tm_at "side"))))
  | (refine w_allocT ?h1 ?_; (case h1 => (with_unfolding_all exact rfl)); intro p hp) | (refine w_allocL ?h1 ?_; (case h1 => (with_unfolding_all exact rfl)); intro p hp)
  | (refine w_dnewK ?_; intro p hp)
  | (refine w_lenC ?h1 ?h2 ?_; (case h1 => (with_unfolding_all exact rfl)); (case h2 => (with_unfolding_all exact rfl)))
  | (refine w_kwC ?h1 ?h2 ?_; (case h1 => (with_unfolding_all exact rfl)); (case h2 => (with_unfolding_all exact rfl))))
local macro_rules | `(tactic| tm_at "vq") => `(tactic| repeat' (tm_at "vq1"))
local macro_rules | `(tactic| tm_at "vx") => `(tactic| with_reducible repeat' (first | refine w_gnameN (by first | (with_reducible_and_instances simp only [List.set_cons_zero, List.set_cons_succ]; apply Eq.refl) | apply Eq.refl) ?_ | refine w_gname ?_ | refine w_setN (by first | (with_reducible_and_instances simp only [List.set_cons_zero, List.set_cons_succ]; apply Eq.refl) | apply Eq.refl) ?_ | refine w_next ?_))
local macro_rules | `(tactic| tm_at "gd") => `(tactic| repeat (first | exact gd_int | exact gd_neg | exact gd_str | exact gd_bl | exact gd_non | exact gd_dct | exact gd_pow (by unfold CPow; decide) | exact gd_var (by with_unfolding_all exact rfl) (.str _) | exact ga_nil | refine ga_cons ?_ ?_ | refine gd_tup ?_ rfl | refine gl_lst ?_ rfl | refine gl_d ?_))
abbrev N_is_whole : List Str := ["thing"]
theorem sc_is_whole : FnScope N_is_whole ["thing"] (defScope s_is_whole) := ⟨rfl, rfl, rfl, by decide +kernel, rfl, by decide +kernel, by decide +kernel⟩
theorem pb_is_whole : PosB "is_whole" s_is_whole ["thing"] := fun _ _ _ _ _ _ us hl => match us, hl with | [_], _ => rfl
abbrev N_is_from : List Str := ["thing", "least"]
theorem sc_is_from : FnScope N_is_from ["thing", "least"] (defScope s_is_from) := ⟨rfl, rfl, rfl, by decide +kernel, rfl, by decide +kernel, by decide +kernel⟩
theorem pb_is_from : PosB "is_from" s_is_from ["thing", "least"] := fun _ _ _ _ _ _ us hl => match us, hl with | [_, _], _ => rfl
abbrev N_is_between : List Str := ["thing", "least", "most"]
theorem sc_is_between : FnScope N_is_between ["thing", "least", "most"] (defScope s_is_between) := ⟨rfl, rfl, rfl, by decide +kernel, rfl, by decide +kernel, by decide +kernel⟩
theorem pb_is_between : PosB "is_between" s_is_between ["thing", "least", "most"] := fun _ _ _ _ _ _ us hl => match us, hl with | [_, _, _], _ => rfl
abbrev N_is_capacity : List Str := ["thing"]
theorem sc_is_capacity : FnScope N_is_capacity ["thing"] (defScope s_is_capacity) := ⟨rfl, rfl, rfl, by decide +kernel, rfl, by decide +kernel, by decide +kernel⟩
theorem pb_is_capacity : PosB "is_capacity" s_is_capacity ["thing"] := fun _ _ _ _ _ _ us hl => match us, hl with | [_], _ => rfl
abbrev N_is_name : List Str := ["thing", "letter"]
theorem sc_is_name : FnScope N_is_name ["thing"] (defScope s_is_name) := ⟨rfl, rfl, rfl, by decide +kernel, rfl, by decide +kernel, by decide +kernel⟩
theorem pb_is_name : PosB "is_name" s_is_name ["thing"] := fun _ _ _ _ _ _ us hl => match us, hl with | [_], _ => rfl
abbrev N_is_run : List Str := ["thing"]
theorem sc_is_run : FnScope N_is_run ["thing"] (defScope s_is_run) := ⟨rfl, rfl, rfl, by decide +kernel, rfl, by decide +kernel, by decide +kernel⟩
theorem pb_is_run : PosB "is_run" s_is_run ["thing"] := fun _ _ _ _ _ _ us hl => match us, hl with | [_], _ => rfl
abbrev N_first_invalid : List Str := ["thing", "most", "index", "pair"]
theorem sc_first_invalid : FnScope N_first_invalid ["thing", "most"] (defScope s_first_invalid) := ⟨rfl, rfl, rfl, by decide +kernel, rfl, by decide +kernel, by decide +kernel⟩
theorem pb_first_invalid : PosB "first_invalid" s_first_invalid ["thing", "most"] := fun _ _ _ _ _ _ us hl => match us, hl with | [_, _], _ => rfl
abbrev N_check_capacity : List Str := ["thing"]
theorem sc_check_capacity : FnScope N_check_capacity ["thing"] (defScope s_check_capacity) := ⟨rfl, rfl, rfl, by decide +kernel, rfl, by decide +kernel, by decide +kernel⟩
theorem pb_check_capacity : PosB "check_capacity" s_check_capacity ["thing"] := fun _ _ _ _ _ _ us hl => match us, hl with | [_], _ => rfl
abbrev N_check_name : List Str := ["thing"]
theorem sc_check_name : FnScope N_check_name ["thing"] (defScope s_check_name) := ⟨rfl, rfl, rfl, by decide +kernel, rfl, by decide +kernel, by decide +kernel⟩
theorem pb_check_name : PosB "check_name" s_check_name ["thing"] := fun _ _ _ _ _ _ us hl => match us, hl with | [_], _ => rfl
abbrev N_table_of : List Str := ["pairs", "found", "name", "count"]
theorem sc_table_of : FnScope N_table_of ["pairs"] (defScope s_table_of) := ⟨rfl, rfl, rfl, by decide +kernel, rfl, by decide +kernel, by decide +kernel⟩
theorem pb_table_of : PosB "table_of" s_table_of ["pairs"] := fun _ _ _ _ _ _ us hl => match us, hl with | [_], _ => rfl
abbrev N_counts_of_table : List Str := ["table", "name"]
theorem sc_counts_of_table : FnScope N_counts_of_table ["table"] (defScope s_counts_of_table) := ⟨rfl, rfl, rfl, by decide +kernel, rfl, by decide +kernel, by decide +kernel⟩
theorem pb_counts_of_table : PosB "counts_of_table" s_counts_of_table ["table"] := fun _ _ _ _ _ _ us hl => match us, hl with | [_], _ => rfl
abbrev N_counts_text : List Str := ["counts", "name", "count"]
theorem sc_counts_text : FnScope N_counts_text ["counts"] (defScope s_counts_text) := ⟨rfl, rfl, rfl, by decide +kernel, rfl, by decide +kernel, by decide +kernel⟩
theorem pb_counts_text : PosB "counts_text" s_counts_text ["counts"] := fun _ _ _ _ _ _ us hl => match us, hl with | [_], _ => rfl
abbrev N_Summary___init__ : List Str := ["self", "capacity", "counts", "invalid"]
theorem sc_Summary___init__ : FnScope N_Summary___init__ ["self", "capacity", "counts"] (defScope s_Summary___init__) := ⟨rfl, rfl, rfl, by decide +kernel, rfl, by decide +kernel, by decide +kernel⟩
abbrev N_Summary___eq__ : List Str := ["self", "other"]
theorem sc_Summary___eq__ : FnScope N_Summary___eq__ ["self", "other"] (defScope s_Summary___eq__) := ⟨rfl, rfl, rfl, by decide +kernel, rfl, by decide +kernel, by decide +kernel⟩
abbrev N_Summary___str__ : List Str := ["self"]
theorem sc_Summary___str__ : FnScope N_Summary___str__ ["self"] (defScope s_Summary___str__) := ⟨rfl, rfl, rfl, by decide +kernel, rfl, by decide +kernel, by decide +kernel⟩
abbrev N_Summary___repr__ : List Str := ["self"]
theorem sc_Summary___repr__ : FnScope N_Summary___repr__ ["self"] (defScope s_Summary___repr__) := ⟨rfl, rfl, rfl, by decide +kernel, rfl, by decide +kernel, by decide +kernel⟩
abbrev N_Summary_arrive : List Str := ["self", "name", "times"]
theorem sc_Summary_arrive : FnScope N_Summary_arrive ["self", "name", "times"] (defScope s_Summary_arrive) := ⟨rfl, rfl, rfl, by decide +kernel, rfl, by decide +kernel, by decide +kernel⟩
abbrev N_Summary_merged : List Str := ["self", "other", "table", "ranks", "name", "cut"]
theorem sc_Summary_merged : FnScope N_Summary_merged ["self", "other"] (defScope s_Summary_merged) := ⟨rfl, rfl, rfl, by decide +kernel, rfl, by decide +kernel, by decide +kernel⟩
abbrev N_lowered : List Str := ["table", "step", "name"]
theorem sc_lowered : FnScope N_lowered ["table", "step"] (defScope s_lowered) := ⟨rfl, rfl, rfl, by decide +kernel, rfl, by decide +kernel, by decide +kernel⟩
theorem pb_lowered : PosB "lowered" s_lowered ["table", "step"] := fun _ _ _ _ _ _ us hl => match us, hl with | [_, _], _ => rfl
abbrev N_arrived : List Str := ["capacity", "table", "name", "times", "lost", "step", "known", "after"]
theorem sc_arrived : FnScope N_arrived ["capacity", "table", "name", "times"] (defScope s_arrived) := ⟨rfl, rfl, rfl, by decide +kernel, rfl, by decide +kernel, by decide +kernel⟩
theorem pb_arrived : PosB "arrived" s_arrived ["capacity", "table", "name", "times"] := fun _ _ _ _ _ _ us hl => match us, hl with | [_, _, _, _], _ => rfl
abbrev N_is_summary : List Str := ["thing"]
theorem sc_is_summary : FnScope N_is_summary ["thing"] (defScope s_is_summary) := ⟨rfl, rfl, rfl, by decide +kernel, rfl, by decide +kernel, by decide +kernel⟩
theorem pb_is_summary : PosB "is_summary" s_is_summary ["thing"] := fun _ _ _ _ _ _ us hl => match us, hl with | [_], _ => rfl
abbrev N_check_summary : List Str := ["thing"]
theorem sc_check_summary : FnScope N_check_summary ["thing"] (defScope s_check_summary) := ⟨rfl, rfl, rfl, by decide +kernel, rfl, by decide +kernel, by decide +kernel⟩
theorem pb_check_summary : PosB "check_summary" s_check_summary ["thing"] := fun _ _ _ _ _ _ us hl => match us, hl with | [_], _ => rfl
abbrev N_is_action : List Str := ["thing"]
theorem sc_is_action : FnScope N_is_action ["thing"] (defScope s_is_action) := ⟨rfl, rfl, rfl, by decide +kernel, rfl, by decide +kernel, by decide +kernel⟩
theorem pb_is_action : PosB "is_action" s_is_action ["thing"] := fun _ _ _ _ _ _ us hl => match us, hl with | [_], _ => rfl
abbrev N_check_actions : List Str := ["actions", "index", "action"]
theorem sc_check_actions : FnScope N_check_actions ["actions"] (defScope s_check_actions) := ⟨rfl, rfl, rfl, by decide +kernel, rfl, by decide +kernel, by decide +kernel⟩
theorem pb_check_actions : PosB "check_actions" s_check_actions ["actions"] := fun _ _ _ _ _ _ us hl => match us, hl with | [_], _ => rfl
abbrev N_check_index : List Str := ["index", "most"]
theorem sc_check_index : FnScope N_check_index ["index", "most"] (defScope s_check_index) := ⟨rfl, rfl, rfl, by decide +kernel, rfl, by decide +kernel, by decide +kernel⟩
theorem pb_check_index : PosB "check_index" s_check_index ["index", "most"] := fun _ _ _ _ _ _ us hl => match us, hl with | [_, _], _ => rfl
abbrev N_check_run : List Str := ["name", "times"]
theorem sc_check_run : FnScope N_check_run ["name", "times"] (defScope s_check_run) := ⟨rfl, rfl, rfl, by decide +kernel, rfl, by decide +kernel, by decide +kernel⟩
theorem pb_check_run : PosB "check_run" s_check_run ["name", "times"] := fun _ _ _ _ _ _ us hl => match us, hl with | [_, _], _ => rfl
abbrev N_check_same : List Str := ["capacity", "summary"]
theorem sc_check_same : FnScope N_check_same ["capacity", "summary"] (defScope s_check_same) := ⟨rfl, rfl, rfl, by decide +kernel, rfl, by decide +kernel, by decide +kernel⟩
theorem pb_check_same : PosB "check_same" s_check_same ["capacity", "summary"] := fun _ _ _ _ _ _ us hl => match us, hl with | [_, _], _ => rfl
abbrev N_more_rows : List Str := ["capacity", "rows", "action", "word", "rest", "index", "name", "times"]
theorem sc_more_rows : FnScope N_more_rows ["capacity", "rows", "action"] (defScope s_more_rows) := ⟨rfl, rfl, rfl, by decide +kernel, rfl, by decide +kernel, by decide +kernel⟩
theorem pb_more_rows : PosB "more_rows" s_more_rows ["capacity", "rows", "action"] := fun _ _ _ _ _ _ us hl => match us, hl with | [_, _, _], _ => rfl
abbrev N_state_after : List Str := ["capacity", "state", "action", "begin", "rows"]
theorem sc_state_after : FnScope N_state_after ["capacity", "state", "action"] (defScope s_state_after) := ⟨rfl, rfl, rfl, by decide +kernel, rfl, by decide +kernel, by decide +kernel⟩
theorem pb_state_after : PosB "state_after" s_state_after ["capacity", "state", "action"] := fun _ _ _ _ _ _ us hl => match us, hl with | [_, _, _], _ => rfl
abbrev N_current_of : List Str := ["begin", "rows", "row"]
theorem sc_current_of : FnScope N_current_of ["begin", "rows"] (defScope s_current_of) := ⟨rfl, rfl, rfl, by decide +kernel, rfl, by decide +kernel, by decide +kernel⟩
theorem pb_current_of : PosB "current_of" s_current_of ["begin", "rows"] := fun _ _ _ _ _ _ us hl => match us, hl with | [_, _], _ => rfl
abbrev N_Collector___init__ : List Str := ["self", "capacity"]
theorem sc_Collector___init__ : FnScope N_Collector___init__ ["self", "capacity"] (defScope s_Collector___init__) := ⟨rfl, rfl, rfl, by decide +kernel, rfl, by decide +kernel, by decide +kernel⟩
abbrev N_Collector___eq__ : List Str := ["self", "other"]
theorem sc_Collector___eq__ : FnScope N_Collector___eq__ ["self", "other"] (defScope s_Collector___eq__) := ⟨rfl, rfl, rfl, by decide +kernel, rfl, by decide +kernel, by decide +kernel⟩
abbrev N_Collector___len__ : List Str := ["self"]
theorem sc_Collector___len__ : FnScope N_Collector___len__ ["self"] (defScope s_Collector___len__) := ⟨rfl, rfl, rfl, by decide +kernel, rfl, by decide +kernel, by decide +kernel⟩
abbrev N_Collector___str__ : List Str := ["self"]
theorem sc_Collector___str__ : FnScope N_Collector___str__ ["self"] (defScope s_Collector___str__) := ⟨rfl, rfl, rfl, by decide +kernel, rfl, by decide +kernel, by decide +kernel⟩
abbrev N_Collector___repr__ : List Str := ["self"]
theorem sc_Collector___repr__ : FnScope N_Collector___repr__ ["self"] (defScope s_Collector___repr__) := ⟨rfl, rfl, rfl, by decide +kernel, rfl, by decide +kernel, by decide +kernel⟩
abbrev N_Collector_start : List Str := ["self"]
theorem sc_Collector_start : FnScope N_Collector_start ["self"] (defScope s_Collector_start) := ⟨rfl, rfl, rfl, by decide +kernel, rfl, by decide +kernel, by decide +kernel⟩
abbrev N_Collector_entries : List Str := ["self"]
theorem sc_Collector_entries : FnScope N_Collector_entries ["self"] (defScope s_Collector_entries) := ⟨rfl, rfl, rfl, by decide +kernel, rfl, by decide +kernel, by decide +kernel⟩
abbrev N_Collector_current : List Str := ["self"]
theorem sc_Collector_current : FnScope N_Collector_current ["self"] (defScope s_Collector_current) := ⟨rfl, rfl, rfl, by decide +kernel, rfl, by decide +kernel, by decide +kernel⟩
abbrev N_Collector_history : List Str := ["self", "action", "state"]
theorem sc_Collector_history : FnScope N_Collector_history ["self"] (defScope s_Collector_history) := ⟨rfl, rfl, rfl, by decide +kernel, rfl, by decide +kernel, by decide +kernel⟩
abbrev N_Collector_arrived : List Str := ["self", "table", "row"]
theorem sc_Collector_arrived : FnScope N_Collector_arrived ["self"] (defScope s_Collector_arrived) := ⟨rfl, rfl, rfl, by decide +kernel, rfl, by decide +kernel, by decide +kernel⟩
abbrev N_Collector_change : List Str := ["self", "action", "state"]
theorem sc_Collector_change : FnScope N_Collector_change ["self", "action"] (defScope s_Collector_change) := ⟨rfl, rfl, rfl, by decide +kernel, rfl, by decide +kernel, by decide +kernel⟩
abbrev N_Collector_do : List Str := ["self", "action"]
theorem sc_Collector_do : FnScope N_Collector_do ["self", "action"] (defScope s_Collector_do) := ⟨rfl, rfl, rfl, by decide +kernel, rfl, by decide +kernel, by decide +kernel⟩
abbrev N_Collector_arrive : List Str := ["self", "name", "times"]
theorem sc_Collector_arrive : FnScope N_Collector_arrive ["self", "name", "times"] (defScope s_Collector_arrive) := ⟨rfl, rfl, rfl, by decide +kernel, rfl, by decide +kernel, by decide +kernel⟩
abbrev N_Collector_merge : List Str := ["self", "summary"]
theorem sc_Collector_merge : FnScope N_Collector_merge ["self", "summary"] (defScope s_Collector_merge) := ⟨rfl, rfl, rfl, by decide +kernel, rfl, by decide +kernel, by decide +kernel⟩
abbrev N_Collector_restart : List Str := ["self", "summary"]
theorem sc_Collector_restart : FnScope N_Collector_restart ["self", "summary"] (defScope s_Collector_restart) := ⟨rfl, rfl, rfl, by decide +kernel, rfl, by decide +kernel, by decide +kernel⟩
abbrev N_Collector_do_all : List Str := ["self", "actions", "observer", "begin", "rows", "past", "failed", "index", "action"]
theorem sc_Collector_do_all : FnScope N_Collector_do_all ["self", "actions", "observer"] (defScope s_Collector_do_all) := ⟨rfl, rfl, rfl, by decide +kernel, rfl, by decide +kernel, by decide +kernel⟩
theorem kdm_Collector_do_all : KwDfM "do_all" "Collector.do_all" s_Collector_do_all ["self", "actions", "observer"] [("observer", .non)] := fun D doc pm an cdv ct us ks h1 h2 => match us, ks, h1, h2 with | [_, _], [_], _, _ => ⟨_, _, _, _, _, _, rfl, rfl, rfl⟩
abbrev N_Collector_preview : List Str := ["self", "actions", "state", "action"]
theorem sc_Collector_preview : FnScope N_Collector_preview ["self", "actions"] (defScope s_Collector_preview) := ⟨rfl, rfl, rfl, by decide +kernel, rfl, by decide +kernel, by decide +kernel⟩
abbrev N_Collector_undo : List Str := ["self", "past", "action", "state"]
theorem sc_Collector_undo : FnScope N_Collector_undo ["self"] (defScope s_Collector_undo) := ⟨rfl, rfl, rfl, by decide +kernel, rfl, by decide +kernel, by decide +kernel⟩
abbrev N__law_cell : List Str := ["_law_script", "_law_k", "_law_state", "_law_cell_here"]
theorem sc__law_cell : FnScope N__law_cell ["_law_script", "_law_k"] (defScope s__law_cell) := ⟨rfl, rfl, rfl, by decide +kernel, rfl, by decide +kernel, by decide +kernel⟩
theorem pb__law_cell : PosB "_law_cell" s__law_cell ["_law_script", "_law_k"] := fun _ _ _ _ _ _ us hl => match us, hl with | [_, _], _ => rfl
abbrev N__law_pool : List Str := ["_law_cell_here", "_law_digits"]
theorem sc__law_pool : FnScope N__law_pool ["_law_cell_here"] (defScope s__law_pool) := ⟨rfl, rfl, rfl, by decide +kernel, rfl, by decide +kernel, by decide +kernel⟩
theorem pb__law_pool : PosB "_law_pool" s__law_pool ["_law_cell_here"] := fun _ _ _ _ _ _ us hl => match us, hl with | [_], _ => rfl
abbrev N__law_draw : List Str := ["_law_pool_here", "_law_many", "_law_state", "_law_digit"]
theorem sc__law_draw : FnScope N__law_draw ["_law_pool_here", "_law_many"] (defScope s__law_draw) := ⟨rfl, rfl, rfl, by decide +kernel, rfl, by decide +kernel, by decide +kernel⟩
theorem pb__law_draw : PosB "_law_draw" s__law_draw ["_law_pool_here", "_law_many"] := fun _ _ _ _ _ _ us hl => match us, hl with | [_, _], _ => rfl
abbrev N__law_words : List Str := ["_law_pool_here", "_law_many", "_law_letters", "_law_menu", "_law_way", "_law_begin", "_law_k", "_law_stem", "_law_at"]
theorem sc__law_words : FnScope N__law_words ["_law_pool_here", "_law_many"] (defScope s__law_words) := ⟨rfl, rfl, rfl, by decide +kernel, rfl, by decide +kernel, by decide +kernel⟩
theorem pb__law_words : PosB "_law_words" s__law_words ["_law_pool_here", "_law_many"] := fun _ _ _ _ _ _ us hl => match us, hl with | [_, _], _ => rfl
abbrev N__law_often : List Str := ["_law_pool_here", "_law_way"]
theorem sc__law_often : FnScope N__law_often ["_law_pool_here"] (defScope s__law_often) := ⟨rfl, rfl, rfl, by decide +kernel, rfl, by decide +kernel, by decide +kernel⟩
theorem pb__law_often : PosB "_law_often" s__law_often ["_law_pool_here"] := fun _ _ _ _ _ _ us hl => match us, hl with | [_], _ => rfl
abbrev N__law_bag : List Str := ["_law_pool_here", "_law_words_here", "_law_most", "_law_found", "_law_word"]
theorem sc__law_bag : FnScope N__law_bag ["_law_pool_here", "_law_words_here", "_law_most"] (defScope s__law_bag) := ⟨rfl, rfl, rfl, by decide +kernel, rfl, by decide +kernel, by decide +kernel⟩
theorem pb__law_bag : PosB "_law_bag" s__law_bag ["_law_pool_here", "_law_words_here", "_law_most"] := fun _ _ _ _ _ _ us hl => match us, hl with | [_, _, _], _ => rfl
abbrev N__law_run : List Str := ["_law_width", "_law_held_here", "_law_word", "_law_often_here", "_law_lost", "_law_step", "_law_each", "_law_after"]
theorem sc__law_run : FnScope N__law_run ["_law_width", "_law_held_here", "_law_word", "_law_often_here"] (defScope s__law_run) := ⟨rfl, rfl, rfl, by decide +kernel, rfl, by decide +kernel, by decide +kernel⟩
theorem pb__law_run : PosB "_law_run" s__law_run ["_law_width", "_law_held_here", "_law_word", "_law_often_here"] := fun _ _ _ _ _ _ us hl => match us, hl with | [_, _, _, _], _ => rfl
abbrev N__law_flat : List Str := ["_law_held_here", "_law_word"]
theorem sc__law_flat : FnScope N__law_flat ["_law_held_here"] (defScope s__law_flat) := ⟨rfl, rfl, rfl, by decide +kernel, rfl, by decide +kernel, by decide +kernel⟩
theorem pb__law_flat : PosB "_law_flat" s__law_flat ["_law_held_here"] := fun _ _ _ _ _ _ us hl => match us, hl with | [_], _ => rfl
abbrev N__law_held : List Str := ["_law_bag_here", "_law_held_here", "_law_word", "_law_many"]
theorem sc__law_held : FnScope N__law_held ["_law_bag_here"] (defScope s__law_held) := ⟨rfl, rfl, rfl, by decide +kernel, rfl, by decide +kernel, by decide +kernel⟩
theorem pb__law_held : PosB "_law_held" s__law_held ["_law_bag_here"] := fun _ _ _ _ _ _ us hl => match us, hl with | [_], _ => rfl
abbrev N__law_merged : List Str := ["_law_width", "_law_one_bag", "_law_more_bag", "_law_held_here", "_law_word", "_law_many", "_law_ranks", "_law_cut"]
theorem sc__law_merged : FnScope N__law_merged ["_law_width", "_law_one_bag", "_law_more_bag"] (defScope s__law_merged) := ⟨rfl, rfl, rfl, by decide +kernel, rfl, by decide +kernel, by decide +kernel⟩
theorem pb__law_merged : PosB "_law_merged" s__law_merged ["_law_width", "_law_one_bag", "_law_more_bag"] := fun _ _ _ _ _ _ us hl => match us, hl with | [_, _, _], _ => rfl
abbrev N__law_text : List Str := ["_law_bag_here", "_law_parts", "_law_word", "_law_many"]
theorem sc__law_text : FnScope N__law_text ["_law_bag_here"] (defScope s__law_text) := ⟨rfl, rfl, rfl, by decide +kernel, rfl, by decide +kernel, by decide +kernel⟩
theorem pb__law_text : PosB "_law_text" s__law_text ["_law_bag_here"] := fun _ _ _ _ _ _ us hl => match us, hl with | [_], _ => rfl
abbrev N__law_now : List Str := ["_law_width", "_law_state", "_law_held_here", "_law_row"]
theorem sc__law_now : FnScope N__law_now ["_law_width", "_law_state"] (defScope s__law_now) := ⟨rfl, rfl, rfl, by decide +kernel, rfl, by decide +kernel, by decide +kernel⟩
theorem pb__law_now : PosB "_law_now" s__law_now ["_law_width", "_law_state"] := fun _ _ _ _ _ _ us hl => match us, hl with | [_, _], _ => rfl
abbrev N__law_plain : List Str := ["_law_pool_here", "_law_width", "_law_words_here", "_law_size", "_law_way", "_law_word", "_law_place"]
theorem sc__law_plain : FnScope N__law_plain ["_law_pool_here", "_law_width", "_law_words_here", "_law_size"] (defScope s__law_plain) := ⟨rfl, rfl, rfl, by decide +kernel, rfl, by decide +kernel, by decide +kernel⟩
theorem pb__law_plain : PosB "_law_plain" s__law_plain ["_law_pool_here", "_law_width", "_law_words_here", "_law_size"] := fun _ _ _ _ _ _ us hl => match us, hl with | [_, _, _, _], _ => rfl
abbrev N__law_done : List Str := ["_law_state", "_law_plain_here", "_law_first", "_law_rows"]
theorem sc__law_done : FnScope N__law_done ["_law_state", "_law_plain_here"] (defScope s__law_done) := ⟨rfl, rfl, rfl, by decide +kernel, rfl, by decide +kernel, by decide +kernel⟩
theorem pb__law_done : PosB "_law_done" s__law_done ["_law_state", "_law_plain_here"] := fun _ _ _ _ _ _ us hl => match us, hl with | [_, _], _ => rfl
abbrev N__law_deed : List Str := ["_law_width", "_law_plain_here", "_law_part"]
theorem sc__law_deed : FnScope N__law_deed ["_law_width", "_law_plain_here"] (defScope s__law_deed) := ⟨rfl, rfl, rfl, by decide +kernel, rfl, by decide +kernel, by decide +kernel⟩
theorem pb__law_deed : PosB "_law_deed" s__law_deed ["_law_width", "_law_plain_here"] := fun _ _ _ _ _ _ us hl => match us, hl with | [_, _], _ => rfl
abbrev N__law_deeds : List Str := ["_law_width", "_law_plains", "_law_plain_here"]
theorem sc__law_deeds : FnScope N__law_deeds ["_law_width", "_law_plains"] (defScope s__law_deeds) := ⟨rfl, rfl, rfl, by decide +kernel, rfl, by decide +kernel, by decide +kernel⟩
theorem pb__law_deeds : PosB "_law_deeds" s__law_deeds ["_law_width", "_law_plains"] := fun _ _ _ _ _ _ us hl => match us, hl with | [_, _], _ => rfl
abbrev N__law_rows_right : List Str := ["_law_told", "_law_width", "_law_rows", "_law_row", "_law_due", "_law_good"]
theorem sc__law_rows_right : FnScope N__law_rows_right ["_law_told", "_law_width", "_law_rows"] (defScope s__law_rows_right) := ⟨rfl, rfl, rfl, by decide +kernel, rfl, by decide +kernel, by decide +kernel⟩
theorem pb__law_rows_right : PosB "_law_rows_right" s__law_rows_right ["_law_told", "_law_width", "_law_rows"] := fun _ _ _ _ _ _ us hl => match us, hl with | [_, _, _], _ => rfl
abbrev N__law_told_right : List Str := ["_law_box", "_law_width", "_law_state", "_law_now_here", "_law_runs", "_law_row", "_law_told", "_law_sums", "_law_word", "_law_often_here"]
theorem sc__law_told_right : FnScope N__law_told_right ["_law_box", "_law_width", "_law_state"] (defScope s__law_told_right) := ⟨rfl, rfl, rfl, by decide +kernel, rfl, by decide +kernel, by decide +kernel⟩
theorem pb__law_told_right : PosB "_law_told_right" s__law_told_right ["_law_box", "_law_width", "_law_state"] := fun _ _ _ _ _ _ us hl => match us, hl with | [_, _, _], _ => rfl
abbrev N__law_drawn : List Str := ["_law_pool_here", "_law_width", "_law_words_here", "_law_state", "_law_most", "_law_plains", "_law_states", "_law_turn"]
theorem sc__law_drawn : FnScope N__law_drawn ["_law_pool_here", "_law_width", "_law_words_here", "_law_state", "_law_most"] (defScope s__law_drawn) := ⟨rfl, rfl, rfl, by decide +kernel, rfl, by decide +kernel, by decide +kernel⟩
theorem pb__law_drawn : PosB "_law_drawn" s__law_drawn ["_law_pool_here", "_law_width", "_law_words_here", "_law_state", "_law_most"] := fun _ _ _ _ _ _ us hl => match us, hl with | [_, _, _, _, _], _ => rfl
abbrev N__law_in_groups : List Str := ["_law_box", "_law_pool_here", "_law_words_here", "_law_plains", "_law_states", "_law_width", "_law_at", "_law_more", "_law_plain_here", "_law_size"]
theorem sc__law_in_groups : FnScope N__law_in_groups ["_law_box", "_law_pool_here", "_law_words_here", "_law_plains", "_law_states"] (defScope s__law_in_groups) := ⟨rfl, rfl, rfl, by decide +kernel, rfl, by decide +kernel, by decide +kernel⟩
theorem pb__law_in_groups : PosB "_law_in_groups" s__law_in_groups ["_law_box", "_law_pool_here", "_law_words_here", "_law_plains", "_law_states"] := fun _ _ _ _ _ _ us hl => match us, hl with | [_, _, _, _, _], _ => rfl
abbrev N__law_all_told : List Str := ["_law_box", "_law_at", "_law_word", "_law_told"]
theorem sc__law_all_told : FnScope N__law_all_told ["_law_box", "_law_at", "_law_word"] (defScope s__law_all_told) := ⟨rfl, rfl, rfl, by decide +kernel, rfl, by decide +kernel, by decide +kernel⟩
theorem pb__law_all_told : PosB "_law_all_told" s__law_all_told ["_law_box", "_law_at", "_law_word"] := fun _ _ _ _ _ _ us hl => match us, hl with | [_, _, _], _ => rfl
abbrev N__law_all_same : List Str := ["_law_boxes", "_law_at", "_law_word", "_law_due", "_law_box", "_law_mate"]
theorem sc__law_all_same : FnScope N__law_all_same ["_law_boxes", "_law_at", "_law_word"] (defScope s__law_all_same) := ⟨rfl, rfl, rfl, by decide +kernel, rfl, by decide +kernel, by decide +kernel⟩
theorem pb__law_all_same : PosB "_law_all_same" s__law_all_same ["_law_boxes", "_law_at", "_law_word"] := fun _ _ _ _ _ _ us hl => match us, hl with | [_, _, _], _ => rfl
abbrev N__law_right : List Str := ["_law_pool_here", "_law_width", "_law_words_here", "_law_plains", "_law_states", "_law_deeds_here", "_law_state", "_law_singly", "_law_together", "_law_grouped", "_law_fresh", "_law_turn", "_law_deed_here", "_law_row", "_law_at", "_law_word", "_law_box"]
theorem sc__law_right : FnScope N__law_right ["_law_pool_here"] (defScope s__law_right) := ⟨rfl, rfl, rfl, by decide +kernel, rfl, by decide +kernel, by decide +kernel⟩
theorem pb__law_right : PosB "_law_right" s__law_right ["_law_pool_here"] := fun _ _ _ _ _ _ us hl => match us, hl with | [_], _ => rfl
abbrev N_law : List Str := ["_law_script", "_law_k"]
theorem sc_law : FnScope N_law ["_law_script"] (defScope s_law) := ⟨rfl, rfl, rfl, by decide +kernel, rfl, by decide +kernel, by decide +kernel⟩
theorem pb_law : PosB "law" s_law ["_law_script"] := fun _ _ _ _ _ _ us hl => match us, hl with | [_], _ => rfl
theorem bj_Summary___init___3 : BindJ "__init__" "Summary.__init__" s_Summary___init__ ["self", "capacity", "counts"] 1 3 [] [0, 1, 2] := .inr ⟨by decide, fun _ _ _ _ _ _ _ us its ws h1 h2 h3 => match us, h1, its, h2, ws, h3 with | [_, _, _], _, [_], _, [], _ => ⟨_, rfl, rfl⟩⟩
theorem bj_Summary_merged_2 : BindJ "merged" "Summary.merged" s_Summary_merged ["self", "other"] 0 2 [] [0, 1] := .inl ⟨rfl, fun _ _ _ _ _ _ us ws h1 h2 => match us, h1, ws, h2 with | [_, _], _, [], _ => rfl⟩
theorem bj_Summary_arrive_3 : BindJ "arrive" "Summary.arrive" s_Summary_arrive ["self", "name", "times"] 1 3 [] [0, 1, 2] := .inr ⟨by decide, fun _ _ _ _ _ _ _ us its ws h1 h2 h3 => match us, h1, its, h2, ws, h3 with | [_, _, _], _, [_], _, [], _ => ⟨_, rfl, rfl⟩⟩
theorem bj_Summary___init___2 : BindJ "__init__" "Summary.__init__" s_Summary___init__ ["self", "capacity", "counts"] 1 2 [] [0, 1, 2] := .inr ⟨by decide, fun _ _ _ _ _ _ _ us its ws h1 h2 h3 => match us, h1, its, h2, ws, h3 with | [_, _], _, [_], _, [], _ => ⟨_, rfl, rfl⟩⟩
theorem bj_Summary___eq___2 : BindJ "__eq__" "Summary.__eq__" s_Summary___eq__ ["self", "other"] 0 2 [] [0, 1] := .inl ⟨rfl, fun _ _ _ _ _ _ us ws h1 h2 => match us, h1, ws, h2 with | [_, _], _, [], _ => rfl⟩
theorem bj_Summary___str___1 : BindJ "__str__" "Summary.__str__" s_Summary___str__ ["self"] 0 1 [] [0] := .inl ⟨rfl, fun _ _ _ _ _ _ us ws h1 h2 => match us, h1, ws, h2 with | [_], _, [], _ => rfl⟩
theorem bj_Collector_change_2 : BindJ "change" "Collector.change" s_Collector_change ["self", "action"] 0 2 [] [0, 1] := .inl ⟨rfl, fun _ _ _ _ _ _ us ws h1 h2 => match us, h1, ws, h2 with | [_, _], _, [], _ => rfl⟩
theorem bj_Collector_current_1 : BindJ "current" "Collector.current" s_Collector_current ["self"] 0 1 [] [0] := .inl ⟨rfl, fun _ _ _ _ _ _ us ws h1 h2 => match us, h1, ws, h2 with | [_], _, [], _ => rfl⟩
theorem bj_Collector_do_2 : BindJ "do" "Collector.do" s_Collector_do ["self", "action"] 0 2 [] [0, 1] := .inl ⟨rfl, fun _ _ _ _ _ _ us ws h1 h2 => match us, h1, ws, h2 with | [_, _], _, [], _ => rfl⟩
theorem bj_Summary___repr___1 : BindJ "__repr__" "Summary.__repr__" s_Summary___repr__ ["self"] 0 1 [] [0] := .inl ⟨rfl, fun _ _ _ _ _ _ us ws h1 h2 => match us, h1, ws, h2 with | [_], _, [], _ => rfl⟩
theorem bj_Collector_start_1 : BindJ "start" "Collector.start" s_Collector_start ["self"] 0 1 [] [0] := .inl ⟨rfl, fun _ _ _ _ _ _ us ws h1 h2 => match us, h1, ws, h2 with | [_], _, [], _ => rfl⟩
theorem bj_Collector___str___1 : BindJ "__str__" "Collector.__str__" s_Collector___str__ ["self"] 0 1 [] [0] := .inl ⟨rfl, fun _ _ _ _ _ _ us ws h1 h2 => match us, h1, ws, h2 with | [_], _, [], _ => rfl⟩
theorem bj_Collector___len___1 : BindJ "__len__" "Collector.__len__" s_Collector___len__ ["self"] 0 1 [] [0] := .inl ⟨rfl, fun _ _ _ _ _ _ us ws h1 h2 => match us, h1, ws, h2 with | [_], _, [], _ => rfl⟩
theorem bj_Collector___repr___1 : BindJ "__repr__" "Collector.__repr__" s_Collector___repr__ ["self"] 0 1 [] [0] := .inl ⟨rfl, fun _ _ _ _ _ _ us ws h1 h2 => match us, h1, ws, h2 with | [_], _, [], _ => rfl⟩
theorem bj_Collector_arrived_1 : BindJ "arrived" "Collector.arrived" s_Collector_arrived ["self"] 0 1 [] [0] := .inl ⟨rfl, fun _ _ _ _ _ _ us ws h1 h2 => match us, h1, ws, h2 with | [_], _, [], _ => rfl⟩
theorem bj_Collector_entries_1 : BindJ "entries" "Collector.entries" s_Collector_entries ["self"] 0 1 [] [0] := .inl ⟨rfl, fun _ _ _ _ _ _ us ws h1 h2 => match us, h1, ws, h2 with | [_], _, [], _ => rfl⟩
theorem bj_Collector_undo_1 : BindJ "undo" "Collector.undo" s_Collector_undo ["self"] 0 1 [] [0] := .inl ⟨rfl, fun _ _ _ _ _ _ us ws h1 h2 => match us, h1, ws, h2 with | [_], _, [], _ => rfl⟩
theorem bj_Collector_preview_2 : BindJ "preview" "Collector.preview" s_Collector_preview ["self", "actions"] 0 2 [] [0, 1] := .inl ⟨rfl, fun _ _ _ _ _ _ us ws h1 h2 => match us, h1, ws, h2 with | [_, _], _, [], _ => rfl⟩
theorem bj_Collector___eq___2 : BindJ "__eq__" "Collector.__eq__" s_Collector___eq__ ["self", "other"] 0 2 [] [0, 1] := .inl ⟨rfl, fun _ _ _ _ _ _ us ws h1 h2 => match us, h1, ws, h2 with | [_, _], _, [], _ => rfl⟩
theorem bj_Collector___init___2 : BindJ "__init__" "Collector.__init__" s_Collector___init__ ["self", "capacity"] 0 2 [] [0, 1] := .inl ⟨rfl, fun _ _ _ _ _ _ us ws h1 h2 => match us, h1, ws, h2 with | [_, _], _, [], _ => rfl⟩
theorem bj_Collector_restart_2 : BindJ "restart" "Collector.restart" s_Collector_restart ["self", "summary"] 0 2 [] [0, 1] := .inl ⟨rfl, fun _ _ _ _ _ _ us ws h1 h2 => match us, h1, ws, h2 with | [_, _], _, [], _ => rfl⟩
theorem bj_Collector_merge_2 : BindJ "merge" "Collector.merge" s_Collector_merge ["self", "summary"] 0 2 [] [0, 1] := .inl ⟨rfl, fun _ _ _ _ _ _ us ws h1 h2 => match us, h1, ws, h2 with | [_, _], _, [], _ => rfl⟩
theorem bj_Collector_arrive_3 : BindJ "arrive" "Collector.arrive" s_Collector_arrive ["self", "name", "times"] 1 3 [] [0, 1, 2] := .inr ⟨by decide, fun _ _ _ _ _ _ _ us its ws h1 h2 h3 => match us, h1, its, h2, ws, h3 with | [_, _, _], _, [_], _, [], _ => ⟨_, rfl, rfl⟩⟩
theorem bj_Collector_history_1 : BindJ "history" "Collector.history" s_Collector_history ["self"] 0 1 [] [0] := .inl ⟨rfl, fun _ _ _ _ _ _ us ws h1 h2 => match us, h1, ws, h2 with | [_], _, [], _ => rfl⟩
def sp_is_whole (K : PySem.W.Frag) : Sp := fun vs H Q _ => ∃ (v : V) (d : PyData), vs = [v] ∧ Dp K H v d ∧ Q (.bl (wholeD d)) H
def sp_is_from (K : PySem.W.Frag) : Sp := fun vs H Q _ => ∃ (v : V) (d : PyData) (j : Int), vs = [v, .int j] ∧ Dp K H v d ∧ Q (.bl (fromD d j)) H
def sp_is_between (K : PySem.W.Frag) : Sp := fun vs H Q _ => ∃ (v : V) (d : PyData) (i j : Int), vs = [v, .int i, .int j] ∧ Dp K H v d ∧ Q (.bl (betD d i j)) H
def sp_is_capacity (K : PySem.W.Frag) : Sp := fun vs H Q _ => ∃ (v : V) (d : PyData), vs = [v] ∧ Dp K H v d ∧ Q (.bl (betD d 1 8)) H
def sp_is_name (K : PySem.W.Frag) : Sp := fun vs H Q _ => ∃ (v : V) (d : PyData), vs = [v] ∧ Dp K H v d ∧ szD d = true ∧ ∀ H', Same H H' → Q (.bl (nameD d)) H'
def sp_is_run (K : PySem.W.Frag) : Sp := fun vs H Q _ => ∃ (v : V) (d : PyData), vs = [v] ∧ Dp K H v d ∧ szD d = true ∧ ∀ H', Same H H' → Q (.bl (runD d)) H'
theorem run_inv {K : PySem.W.Frag} {H : Hp} {v : V} {d : PyData} (h : Dp K H v d) (r : runD d = true) : ∃ a x w, v = .ref a ∧ SqT K H a [.str x, w] ∧ nmD d = x := by
  unfold runD at r
  split at r
  · rename_i a b
    cases a with
    | str x =>
      obtain ⟨p, xs, rfl, hs, hx⟩ := dp_tup_inv h
      cases hx with
      | @cons v0 _ _ _ r0 hx =>
      cases hx with
      | @cons v1 _ _ _ r1 hx =>
      cases hx
      cases dp_str_inv r0
      exact ⟨p, x, v1, rfl, hs, rfl⟩
    | _ => cases r
  · cases r
theorem getD_of {ds : List PyData} {i : Nat} {d : PyData} (h : ds[i]? = some d) : ds.getD i .none = d := by simp [List.getD, h]
def sp_first_invalid (K : PySem.W.Frag) : Sp := fun vs H Q _ => ∃ (v : V) (ds : List PyData) (m : Int), vs = [v, .int m] ∧ Dp K H v (.tuple ds) ∧ szDs ds = true ∧ ∀ H', Same H H' → Q (optV (firstBad ds m)) H'
def sp_check_capacity (K : PySem.W.Frag) : Sp := fun vs H Q _ => ∃ (c : Int), vs = [.int c] ∧ 1 ≤ c ∧ c ≤ 8 ∧ Q .non H
def sp_check_name (K : PySem.W.Frag) : Sp := fun vs H Q _ => ∃ (x : Str), vs = [.str x] ∧ isName x = true ∧ ∀ H', Same H H' → Q .non H'
def sp_table_of (K : PySem.W.Frag) : Sp := fun vs H Q _ => ∃ (v : V) (ps : Bag), vs = [v] ∧ (Dp K H v (bagD ps) ∨ ∃ l xs, v = .ref l ∧ H l = some (.lst xs) ∧ DpAll K H xs (ps.map pairD)) ∧ ps.length ≤ 100000 ∧ ∀ a H', H a = none → Same H H' → H' a = some (.dK (kvOf (tabOf ps))) → Q (.ref a) H'
def sp_counts_of_table (K : PySem.W.Frag) : Sp := fun vs H Q _ => ∃ (a : Addr) (t : Bag), vs = [.ref a] ∧ H a = some (.dK (kvOf t)) ∧ (t.map (·.1)).Nodup ∧ t.length < 64 ∧ ∀ v ps H', Same H H' → Dp K H' v (bagD ps) → IsCan (fun n => posI (getT t n)) ps → ps.length ≤ t.length → (∀ p ∈ ps, p.1 ∈ t.map (·.1)) → Q v H'
def sp_counts_text (K : PySem.W.Frag) : Sp := fun vs H Q _ => ∃ (v : V) (ps : Bag), vs = [v] ∧ Dp K H v (bagD ps) ∧ BagS ps ∧ ps.length ≤ 5000 ∧ ∀ H', Same H H' → Q (.str (cText ps)) H'
def sp_Summary___init__ (K : PySem.W.Frag) : Sp := spInit K
def sp_Summary___eq__ (K : PySem.W.Frag) : Sp := fun vs H Q _ => ∃ (v w : V) (c : Int) (ps : Bag), vs = [v, w] ∧ SumO K H v c ps ∧ SumV c ps ∧ ((∃ d qs, SumO K H w d qs ∧ SumV d qs ∧ Q (.bl (decide (c = d) && decide (ps = qs))) H) ∨ ∃ T, T ∈ ["NoneType", "bool", "int", "str", "list", "tuple", "dict"] ∧ TyX K H w (.type T) ∧ Q (.bl false) H)
def sp_Summary___str__ (K : PySem.W.Frag) : Sp := fun vs H Q _ => ∃ (v : V) (c : Int) (ps : Bag), vs = [v] ∧ SumO K H v c ps ∧ SumV c ps ∧ BagS ps ∧ ∀ H', Same H H' → Q (.str (cText ps)) H'
def sp_Summary___repr__ (K : PySem.W.Frag) : Sp := fun vs H Q _ => ∃ (v : V) (c : Int) (ps : Bag), vs = [v] ∧ SumO K H v c ps ∧ SumV c ps ∧ BagS ps ∧ ∀ H', Same H H' → Q (.str (("Summary(" : Str) ++ intS c ++ (", '" : Str) ++ cText ps ++ ("')" : Str))) H'
def sp_Summary_arrive (K : PySem.W.Frag) : Sp := fun vs H Q _ => ∃ (v : V) (c : Int) (ps : Bag) (n : Str) (m : Int), vs = [v, .str n, .int m] ∧ SumO K H v c ps ∧ SumV c ps ∧ isName n = true ∧ 1 ≤ m ∧ ∀ v' ps' H', Same H H' → SumO K H' v' c ps' → SumV c ps' → ps'.Perm (arrT c ps n m).1 → Q v' H'
def sp_Summary_merged (K : PySem.W.Frag) : Sp := fun vs H Q _ => ∃ (v w : V) (c : Int) (ps qs : Bag), vs = [v, w] ∧ SumO K H v c ps ∧ SumV c ps ∧ SumO K H w c qs ∧ SumV c qs ∧ ∀ v' r H', Same H H' → SumO K H' v' c r → SumV c r → MergeR c ps qs r → Q v' H'
def sp_lowered (K : PySem.W.Frag) : Sp := fun vs H Q _ => ∃ (a : Addr) (t : Bag) (s : Int), vs = [.ref a, .int s] ∧ H a = some (.dK (kvOf t)) ∧ (keys t).Nodup ∧ t.length ≤ 1000 ∧ ∀ b H', H b = none → Same H H' → H' b = some (.dK (kvOf (lowT t s))) → Q (.ref b) H'
theorem arr_fin {c : Int} {t t' : Bag} {n : Str} {m m' l : Int} (h0 : ArrOk c t) (hm : 1 ≤ m)
    (h : (t' = t ∧ m' = m ∧ l = 0 ∧ (n ∈ keys t ∨ (t.length : Int) ≠ c)) ∨ (n ∉ keys t ∧ (t.length : Int) = c ∧ l = (if m ≤ minV t then m else minV t) ∧ t' = lowT t l ∧ m' = m - l)) :
    (if 0 < m' then putT t' n (getT t' n + m') else t', l) = arrT c t n m := by
  unfold arrT
  rcases h with ⟨rfl, rfl, rfl, z⟩ | ⟨z1, z2, rfl, rfl, rfl⟩
  · rw [if_pos z, if_pos (by omega)]
  · have ez : ¬ (n ∈ keys t ∨ (t.length : Int) ≠ c) := fun q => q.elim z1 fun q => q z2
    rw [if_neg ez]
    by_cases y : m ≤ minV t
    · simp only [if_pos y]
      rw [if_neg (show ¬ 0 < m - m by omega)]
    · simp only [if_neg y]
      rw [if_pos (show 0 < m - minV t by omega)]
      have : getT (lowT t (minV t)) n = 0 := getT_out fun p hp e => z1 (e ▸ lowT_keys (List.mem_map.mpr ⟨p, hp, rfl⟩))
      rw [this]
      simp
def sp_arrived (K : PySem.W.Frag) : Sp := fun vs H Q _ => ∃ (c : Int) (a : Addr) (t : Bag) (n : Str) (m : Int), vs = [.int c, .ref a, .str n, .int m] ∧ H a = some (.dK (kvOf t)) ∧ ArrOk c t ∧ c ≤ 100 ∧ 1 ≤ m ∧ ∀ v p b H', Same H H' → v = .ref p → SqT K H' p [.ref b, .int (arrT c t n m).2] → H b = none → H' b = some (.dK (kvOf (arrT c t n m).1)) → Q v H'
def sp_is_summary (K : PySem.W.Frag) : Sp := fun vs H Q _ => ∃ (v : V) (b : Bool), vs = [v] ∧ ((b = true ∧ ∃ c ps, SumO K H v c ps) ∨ (b = false ∧ ∃ d, Dp K H v d)) ∧ Q (.bl b) H
def sp_check_summary (K : PySem.W.Frag) : Sp := fun vs H Q _ => ∃ (v : V) (c : Int) (ps : Bag), vs = [v] ∧ SumO K H v c ps ∧ Q .non H
def sp_is_action (K : PySem.W.Frag) : Sp := fun vs H Q _ => ∃ (v : V) (c : Int) (a : Act), vs = [v] ∧ DeedO K H c v a ∧ ∀ H', Same H H' → Q (.bl true) H'
def sp_check_actions (K : PySem.W.Frag) : Sp := fun vs H Q _ => ∃ (T : Addr) (xs : List V) (c : Int) (acts : List Act), vs = [.ref T] ∧ SqT K H T xs ∧ All2 (DeedO K H c) xs acts ∧ xs.length ≤ 100000 ∧ ∀ H', Same H H' → Q .non H'
def sp_check_index (K : PySem.W.Frag) : Sp := fun vs H Q _ => ∃ (i : Nat) (m : Int), vs = [.int (i : Nat), .int m] ∧ (i : Int) ≤ m ∧ Q .non H
def sp_check_run (K : PySem.W.Frag) : Sp := fun vs H Q _ => ∃ (n : Str) (m : Int), vs = [.str n, .int m] ∧ isName n = true ∧ 1 ≤ m ∧ ∀ H', Same H H' → Q .non H'
def sp_check_same (K : PySem.W.Frag) : Sp := fun vs H Q _ => ∃ (c : Int) (v : V) (ps : Bag), vs = [.int c, v] ∧ SumO K H v c ps ∧ Q .non H
def sp_more_rows (K : PySem.W.Frag) : Sp := fun vs H Q _ => ∃ (c : Int) (r v : V) (rows : List Row) (a : Act) (b : Bag), vs = [.int c, r, v] ∧ RowsO K H c r rows ∧ DeedO K H c v a ∧ ActV c rows.length a ∧ rows.length ≤ 1000 ∧ (∀ i, a ≠ .remove i) ∧ (∀ qs, a ≠ .start qs) ∧ ∀ v' H', Same H H' → RowsO K H' c v' (stepA (b, rows) a).2 → Q v' H'
def sp_state_after (K : PySem.W.Frag) : Sp := fun vs H Q _ => ∃ (c : Int) (sv v : V) (s : StA) (a : Act), vs = [.int c, sv, v] ∧ StaO K H c sv s ∧ DeedO K H c v a ∧ ActV c s.2.length a ∧ s.2.length ≤ 99 ∧ ∀ v' H', Same H H' → StaO K H' c v' (stepA s a) → Q v' H'
def sp_current_of (K : PySem.W.Frag) : Sp := fun vs H Q _ => ∃ (c : Int) (b r : V) (s : StA), vs = [b, r] ∧ SumO K H b c s.1 ∧ RowsO K H c r s.2 ∧ StV c s ∧ s.2.length ≤ 100 ∧ ∀ v' H', Same H H' → SumO K H' v' c (nowT c s.1 s.2) → SumV c (nowT c s.1 s.2) → sumC (nowT c s.1 s.2) ≤ 10 ^ 36 → Q v' H'
def sp_Collector___init__ (K : PySem.W.Frag) : Sp := fun vs H Q _ => ∃ (a dx : Addr) (c : Int), vs = [.ref a, .int c] ∧ H a = some (.ins (He.ga K "Collector") dx []) ∧ 1 ≤ c ∧ c ≤ 8 ∧ ∀ H' B R P, SameB a H H' → ColO K H' a c ([], []) [] false 0 dx B R P → Q .non H'
def sp_Collector___eq__ (K : PySem.W.Frag) : Sp := fun vs H Q _ => ∃ (a b dx dy : Addr) (c : Int) (s s' : StA) (past past' : List (Act × StA)) (busy busy' : Bool) (att att' : Int) (B R P B' R' P' : V), vs = [.ref a, .ref b] ∧ ColO K H a c s past busy att dx B R P ∧ ColO K H b c s' past' busy' att' dy B' R' P' ∧ StV c s ∧ StV c s' ∧ ((s = s' ∧ ∀ H', Same H H' → Q (.bl true) H') ∨ ∃ ps qs, s.1 = s'.1 ∧ s.2 = runB ps ∧ s'.2 = runB qs ∧ ps ≠ qs ∧ Q (.bl false) H)
def sp_Collector___len__ (K : PySem.W.Frag) : Sp := fun vs H Q _ => ∃ (a dx : Addr) (c : Int) (s : StA) (past : List (Act × StA)) (busy : Bool) (att : Int) (B R P : V), vs = [.ref a] ∧ ColO K H a c s past busy att dx B R P ∧ Q (.int (s.2.length : Nat)) H
def sp_Collector___str__ (K : PySem.W.Frag) : Sp := fun vs H Q _ => ∃ (a dx : Addr) (c : Int) (s : StA) (past : List (Act × StA)) (busy : Bool) (att : Int) (B R P : V), vs = [.ref a] ∧ ColO K H a c s past busy att dx B R P ∧ StV c s ∧ s.2.length ≤ 100 ∧ ∀ H', Same H H' → Q (.str (cText (nowT c s.1 s.2))) H'
def sp_Collector___repr__ (K : PySem.W.Frag) : Sp := fun vs H Q _ => ∃ (a dx : Addr) (c : Int) (s : StA) (past : List (Act × StA)) (busy : Bool) (att : Int) (B R P : V), vs = [.ref a] ∧ ColO K H a c s past busy att dx B R P ∧ 0 ≤ c ∧ c ≤ 8 ∧ s.2.length ≤ 1000 ∧ ∀ H', Same H H' → Q (.str (("Collector(" : Str) ++ intS c ++ (", " : Str) ++ intS (s.2.length : Nat) ++ (" entries)" : Str))) H'
def sp_Collector_start (K : PySem.W.Frag) : Sp := fun vs H Q _ => ∃ (a dx : Addr) (c : Int) (s : StA) (past : List (Act × StA)) (busy : Bool) (att : Int) (B R P : V), vs = [.ref a] ∧ ColO K H a c s past busy att dx B R P ∧ Q B H
def sp_Collector_entries (K : PySem.W.Frag) : Sp := fun vs H Q _ => ∃ (a dx : Addr) (c : Int) (s : StA) (past : List (Act × StA)) (busy : Bool) (att : Int) (B R P : V), vs = [.ref a] ∧ ColO K H a c s past busy att dx B R P ∧ Q R H
def sp_Collector_current (K : PySem.W.Frag) : Sp := fun vs H Q _ => ∃ (a dx : Addr) (c : Int) (s : StA) (past : List (Act × StA)) (busy : Bool) (att : Int) (B R P : V), vs = [.ref a] ∧ ColO K H a c s past busy att dx B R P ∧ StV c s ∧ s.2.length ≤ 100 ∧ ∀ v' H', Same H H' → SumO K H' v' c (nowT c s.1 s.2) → SumV c (nowT c s.1 s.2) → sumC (nowT c s.1 s.2) ≤ 10 ^ 36 → Q v' H'
def sp_Collector_history (K : PySem.W.Frag) : Sp := fun vs H Q _ => ∃ (a dx : Addr) (c : Int) (s : StA) (past : List (Act × StA)) (busy : Bool) (att : Int) (B R P : V), vs = [.ref a] ∧ ColO K H a c s past busy att dx B R P ∧ past.length ≤ 100000 ∧ ∀ T xs H', Same H H' → H' T = some (.tup xs) → All2 (DeedO K H' c) xs (past.map (·.1)) → Q (.ref T) H'
def sp_Collector_arrived (K : PySem.W.Frag) : Sp := fun vs H Q _ => ∃ (a dx : Addr) (c : Int) (s : StA) (past : List (Act × StA)) (busy : Bool) (att : Int) (B R P : V), vs = [.ref a] ∧ ColO K H a c s past busy att dx B R P ∧ StV c s ∧ s.2.length ≤ 100 ∧ (tabOf (runsR s.2)).length ≤ 12 ∧ ∀ v' ps H', Same H H' → Dp K H' v' (bagD ps) → IsCan (fun n => posI (getT (tabOf (runsR s.2)) n)) ps → (∀ p ∈ ps, p.1 ∈ (tabOf (runsR s.2)).map (·.1)) → Q v' H'
def sp_Collector_change (K : PySem.W.Frag) : Sp := fun vs H Q _ => ∃ (a dx : Addr) (c : Int) (s : StA) (past : List (Act × StA)) (busy : Bool) (att : Int) (B R P : V) (v : V) (act : Act), vs = [.ref a, v] ∧ ColO K H a c s past busy att dx B R P ∧ DeedO K H c v act ∧ ActV c s.2.length act ∧ s.2.length ≤ 99 ∧ past.length ≤ 5000 ∧ ∀ H' B' R' P', SameB a H H' → ColO K H' a c (stepA s act) (past ++ [(act, s)]) busy att dx B' R' P' → Q .non H'
def sp_Collector_do (K : PySem.W.Frag) : Sp := fun vs H Q _ => ∃ (a dx : Addr) (c : Int) (s : StA) (past : List (Act × StA)) (busy : Bool) (att : Int) (B R P : V) (v : V) (act : Act), vs = [.ref a, v] ∧ ColO K H a c s past false att dx B R P ∧ busy = false ∧ StV c s ∧ DeedO K H c v act ∧ ActV c s.2.length act ∧ s.2.length ≤ 99 ∧ past.length ≤ 5000 ∧ ∀ v' H' B' R' P', SameB a H H' → ColO K H' a c (stepA s act) (past ++ [(act, s)]) false att dx B' R' P' → SumO K H' v' c (nowT c (stepA s act).1 (stepA s act).2) → SumV c (nowT c (stepA s act).1 (stepA s act).2) → sumC (nowT c (stepA s act).1 (stepA s act).2) ≤ 10 ^ 36 → Q v' H'
def sp_Collector_arrive (K : PySem.W.Frag) : Sp := fun vs H Q _ => ∃ (a dx : Addr) (c : Int) (s : StA) (past : List (Act × StA)) (att : Int) (B R P : V) (n : Str) (m : Int), vs = [.ref a, .str n, .int m] ∧ ColO K H a c s past false att dx B R P ∧ StV c s ∧ ActV c s.2.length (.arrive n m) ∧ s.2.length ≤ 99 ∧ past.length ≤ 5000 ∧ ∀ v' H' B' R' P', SameB a H H' → ColO K H' a c (stepA s (.arrive n m)) (past ++ [(.arrive n m, s)]) false att dx B' R' P' → SumO K H' v' c (nowT c (stepA s (.arrive n m)).1 (stepA s (.arrive n m)).2) → SumV c (nowT c (stepA s (.arrive n m)).1 (stepA s (.arrive n m)).2) → sumC (nowT c (stepA s (.arrive n m)).1 (stepA s (.arrive n m)).2) ≤ 10 ^ 36 → Q v' H'
def sp_Collector_merge (K : PySem.W.Frag) : Sp := fun vs H Q _ => ∃ (a dx : Addr) (c : Int) (s : StA) (past : List (Act × StA)) (att : Int) (B R P : V) (w : V) (qs : Bag), vs = [.ref a, w] ∧ ColO K H a c s past false att dx B R P ∧ StV c s ∧ SumO K H w c qs ∧ ActV c s.2.length (.merge qs) ∧ s.2.length ≤ 99 ∧ past.length ≤ 5000 ∧ ∀ v' H' B' R' P', SameB a H H' → ColO K H' a c (stepA s (.merge qs)) (past ++ [(.merge qs, s)]) false att dx B' R' P' → SumO K H' v' c (nowT c (stepA s (.merge qs)).1 (stepA s (.merge qs)).2) → SumV c (nowT c (stepA s (.merge qs)).1 (stepA s (.merge qs)).2) → sumC (nowT c (stepA s (.merge qs)).1 (stepA s (.merge qs)).2) ≤ 10 ^ 36 → Q v' H'
def sp_Collector_restart (K : PySem.W.Frag) : Sp := fun vs H Q _ => ∃ (a dx : Addr) (c : Int) (s : StA) (past : List (Act × StA)) (att : Int) (B R P : V) (w : V) (qs : Bag), vs = [.ref a, w] ∧ ColO K H a c s past false att dx B R P ∧ StV c s ∧ SumO K H w c qs ∧ ActV c s.2.length (.start qs) ∧ s.2.length ≤ 99 ∧ past.length ≤ 5000 ∧ ∀ v' H' B' R' P', SameB a H H' → ColO K H' a c (stepA s (.start qs)) (past ++ [(.start qs, s)]) false att dx B' R' P' → SumO K H' v' c (nowT c (stepA s (.start qs)).1 (stepA s (.start qs)).2) → SumV c (nowT c (stepA s (.start qs)).1 (stepA s (.start qs)).2) → sumC (nowT c (stepA s (.start qs)).1 (stepA s (.start qs)).2) ≤ 10 ^ 36 → Q v' H'
def sp_Collector_do_all (K : PySem.W.Frag) : Sp := fun vs H Q _ => ∃ (a dx : Addr) (c : Int) (s : StA) (past : List (Act × StA)) (att : Int) (B R P : V) (T : Addr) (xs : List V) (acts : List Act), vs = [.ref a, .ref T, .non] ∧ ColO K H a c s past false att dx B R P ∧ StV c s ∧ SqT K H T xs ∧ All2 (DeedO K H c) xs acts ∧ ActsV c s acts ∧ s.2.length ≤ 100 ∧ past.length + acts.length ≤ 5000 ∧ ∀ v' H' B' R' P', SameB a H H' → ColO K H' a c (runS s acts) (past ++ histA s acts) false (att + 1) dx B' R' P' → SumO K H' v' c (nowT c (runS s acts).1 (runS s acts).2) → SumV c (nowT c (runS s acts).1 (runS s acts).2) → sumC (nowT c (runS s acts).1 (runS s acts).2) ≤ 10 ^ 36 → Q v' H'
def sp_Collector_preview (K : PySem.W.Frag) : Sp := fun vs H Q _ => ∃ (a dx : Addr) (c : Int) (s : StA) (past : List (Act × StA)) (busy : Bool) (att : Int) (B R P : V) (T : Addr) (xs : List V) (acts : List Act), vs = [.ref a, .ref T] ∧ ColO K H a c s past busy att dx B R P ∧ StV c s ∧ SqT K H T xs ∧ All2 (DeedO K H c) xs acts ∧ ActsV c s acts ∧ s.2.length ≤ 100 ∧ acts.length ≤ 5000 ∧ ∀ v' H', Same H H' → SumO K H' v' c (nowT c (runS s acts).1 (runS s acts).2) → SumV c (nowT c (runS s acts).1 (runS s acts).2) → sumC (nowT c (runS s acts).1 (runS s acts).2) ≤ 10 ^ 36 → Q v' H'
def sp_Collector_undo (K : PySem.W.Frag) : Sp := fun vs H Q _ => ∃ (a dx : Addr) (c : Int) (s : StA) (past : List (Act × StA)) (act : Act) (s0 : StA) (att : Int) (B R P : V), vs = [.ref a] ∧ ColO K H a c s (past ++ [(act, s0)]) false att dx B R P ∧ StV c s0 ∧ s0.2.length ≤ 100 ∧ past.length ≤ 5000 ∧ ∀ v' H' B' R' P', SameB a H H' → ColO K H' a c s0 past false att dx B' R' P' → SumO K H' v' c (nowT c s0.1 s0.2) → SumV c (nowT c s0.1 s0.2) → sumC (nowT c s0.1 s0.2) ≤ 10 ^ 36 → Q v' H'
def sp__law_cell (K : PySem.W.Frag) : Sp := fun vs H Q _ => ∃ (a : Addr) (ns : List Int) (j : Int), vs = [.ref a, .int j] ∧ SqL K H a (ns.map V.int) ∧ ns.length ≤ 100 ∧ 0 ≤ j ∧ j ≤ 1000 ∧ ∀ n H', Same H H' → Q (.int n) H'
def spc__law_pool (K : PySem.W.Frag) : Sp := spPoolC
def sp__law_pool (K : PySem.W.Frag) : Sp := spPool
theorem divp200 {i j : Int} (h0 : 0 < j) (h1 : j < 2 ^ 200) : CDivP i j := by
  refine ⟨h0, PyProof.noPylong_of_log2 ?_⟩
  exact Nat.lt_of_lt_of_le (PySem.Flt.log2_lt_of (by decide : 0 < 200) (by omega)) (by decide)
def spc__law_draw (K : PySem.W.Frag) : Sp := spDrawC
def sp__law_draw (K : PySem.W.Frag) : Sp := spDraw
def sp__law_words (K : PySem.W.Frag) : Sp := fun vs H Q _ => ∃ (p : Addr) (m : Int), vs = [.ref p, .int m] ∧ H p = some (poolO p) ∧ 0 ≤ m ∧ m ≤ 15 ∧ ∀ a ws H', H a = none → Same H H' → H' a = some (.lst (ws.map V.str)) → WordsOk ws m.toNat → Q (.ref a) H'
def sp__law_often (K : PySem.W.Frag) : Sp := fun vs H Q _ => ∃ (p : Addr), vs = [.ref p] ∧ H p = some (poolO p) ∧ ∀ (r : Int) H', 1 ≤ r → r ≤ 10 ^ 30 → Same H H' → Q (.int r) H'
def sp__law_bag (K : PySem.W.Frag) : Sp := fun vs H Q _ => ∃ (p a : Addr) (ws : List Str) (m : Int) (n : Nat), vs = [.ref p, .ref a, .int m] ∧ H p = some (poolO p) ∧ SqL K H a (ws.map V.str) ∧ WordsOk ws n ∧ n < 64 ∧ 0 ≤ m ∧ m ≤ 10 ^ 30 ∧ ∀ v ps H', Same H H' → Dp K H' v (bagD ps) → BagOk ps → (∀ q ∈ ps, q.1 ∈ ws) → ps.length ≤ n → (∀ q ∈ ps, q.2 ≤ 10 ^ 30) → (0 < m → ∀ q ∈ ps, q.2 ≤ m) → Q v H'
theorem run_fin {c : Int} {t t' : Bag} {n : Str} {m m' l : Int} (h0 : ArrOk c t) (hm : 1 ≤ m)
    (h : (t' = t ∧ m' = m ∧ l = 0 ∧ (n ∈ keys t ∨ (t.length : Int) ≠ c)) ∨ (n ∉ keys t ∧ (t.length : Int) = c ∧ l = (if m ≤ minV t then m else minV t) ∧ t' = lowT t l ∧ m' = m - l)) :
    (if 0 < m' then putT t' n (getT t' n + m') else t', l) = arrT c t n m := by
  unfold arrT
  rcases h with ⟨rfl, rfl, rfl, z⟩ | ⟨z1, z2, rfl, rfl, rfl⟩
  · rw [if_pos z, if_pos (by omega)]
  · have ez : ¬ (n ∈ keys t ∨ (t.length : Int) ≠ c) := fun q => q.elim z1 fun q => q z2
    rw [if_neg ez]
    by_cases y : m ≤ minV t
    · simp only [if_pos y]
      rw [if_neg (show ¬ 0 < m - m by omega)]
    · simp only [if_neg y]
      rw [if_pos (show 0 < m - minV t by omega)]
      have : getT (lowT t (minV t)) n = 0 := getT_out fun p hp e => z1 (e ▸ lowT_keys (List.mem_map.mpr ⟨p, hp, rfl⟩))
      rw [this]
      simp
def sp__law_run (K : PySem.W.Frag) : Sp := fun vs H Q _ => ∃ (c : Int) (a : Addr) (t : Bag) (n : Str) (m : Int), vs = [.int c, .ref a, .str n, .int m] ∧ H a = some (.dK (kvOf t)) ∧ ArrOk c t ∧ c ≤ 100 ∧ 1 ≤ m ∧ ∀ v p b H', Same H H' → v = .ref p → SqT K H' p [.ref b, .int (arrT c t n m).2] → H b = none → H' b = some (.dK (kvOf (arrT c t n m).1)) → Q v H'
def sp__law_flat (K : PySem.W.Frag) : Sp := fun vs H Q _ => ∃ (a : Addr) (t : Bag), vs = [.ref a] ∧ H a = some (.dK (kvOf t)) ∧ (t.map (·.1)).Nodup ∧ t.length < 64 ∧ (∀ n ∈ t.map (·.1), 0 < getT t n) ∧ ∀ v ps H', Same H H' → Dp K H' v (bagD ps) → IsCan (fun n => posI (getT t n)) ps → ps.length ≤ t.length → (∀ p ∈ ps, p.1 ∈ t.map (·.1)) → Q v H'
def sp__law_held (K : PySem.W.Frag) : Sp := fun vs H Q _ => ∃ (v : V) (ps : Bag), vs = [v] ∧ Dp K H v (bagD ps) ∧ (keys ps).Nodup ∧ ps.length ≤ 100000 ∧ ∀ a H', H a = none → Same H H' → H' a = some (.dK (kvOf ps)) → Q (.ref a) H'
def sp__law_merged (K : PySem.W.Frag) : Sp := fun vs H Q _ => ∃ (v w : V) (c : Int) (ps qs : Bag), vs = [.int c, v, w] ∧ Dp K H v (bagD ps) ∧ SumV c ps ∧ Dp K H w (bagD qs) ∧ SumV c qs ∧ ∀ v' r H', Same H H' → Dp K H' v' (bagD r) → MergeR c ps qs r → Q v' H'
def sp__law_text (K : PySem.W.Frag) : Sp := fun vs H Q _ => ∃ (v : V) (ps : Bag), vs = [v] ∧ Dp K H v (bagD ps) ∧ BagS ps ∧ ps.length ≤ 5000 ∧ ∀ H', Same H H' → Q (.str (cText ps)) H'
def sp__law_now (K : PySem.W.Frag) : Sp := fun vs H Q _ => ∃ (c : Int) (v : V) (s : StA), vs = [.int c, v] ∧ Dp K H v (stD s) ∧ StV c s ∧ s.2.length ≤ 100 ∧ ∀ v' H', Same H H' → Dp K H' v' (bagD (nowT c s.1 s.2)) → SumV c (nowT c s.1 s.2) → sumC (nowT c s.1 s.2) ≤ 10 ^ 36 → Q v' H'
def sp__law_plain (K : PySem.W.Frag) : Sp := fun vs H Q _ => ∃ (p a : Addr) (ws : List Str) (c : Int) (n : Nat) (D : List Addr), vs = [.ref p, .int c, .ref a, .int (n : Nat)] ∧ H p = some (poolO p) ∧ SqL K H a (ws.map V.str) ∧ WordsOk ws ws.length ∧ 1 ≤ ws.length ∧ ws.length ≤ 12 ∧ 1 ≤ c ∧ c ≤ 8 ∧ n ≤ 1000 ∧ Lsts D H ∧ ∀ v' act H', Same H H' → Dp K (Off D H') v' (actD act) → ActV c n act → (∀ x ∈ actN act, x ∈ ws) → Q v' H'
def sp__law_done (K : PySem.W.Frag) : Sp := fun vs H Q _ => ∃ (v w : V) (c : Int) (s : StA) (a : Act) (D : List Addr), vs = [v, w] ∧ StL K (Off D H) v s ∧ Dp K (Off D H) w (actD a) ∧ ActV c s.2.length a ∧ s.2.length ≤ 1000 ∧ Lsts D H ∧ ∀ v' H', Same H H' → StL K (Off D H') v' (stepA s a) → Q v' H'
def sp__law_deed (K : PySem.W.Frag) : Sp := fun vs H Q _ => ∃ (c : Int) (v : V) (n : Nat) (a : Act), vs = [.int c, v] ∧ Dp K H v (actD a) ∧ ActV c n a ∧ ∀ v' H', Same H H' → DeedO K H' c v' a → Q v' H'
def sp__law_deeds (K : PySem.W.Frag) : Sp := fun vs H Q _ => ∃ (c : Int) (v : V) (acts : List Act), vs = [.int c, v] ∧ Dp K H v (.list (acts.map actD)) ∧ (∀ a ∈ acts, ∃ n, ActV c n a) ∧ acts.length ≤ 1000 ∧ ∀ T xs H', Same H H' → H' T = some (.tup xs) → All2 (DeedO K H' c) xs acts → Q (.ref T) H'
def sp__law_rows_right (K : PySem.W.Frag) : Sp := fun vs H Q _ => ∃ (r w : V) (c : Int) (rows : List Row), vs = [r, .int c, w] ∧ RowsO K H c r rows ∧ Dp K H w (.list (rows.map rowD)) ∧ (∀ x ∈ rows, RowV c x) ∧ rows.length ≤ 100 ∧ 1 ≤ c ∧ c ≤ 8 ∧ ∀ H', Same H H' → Q (.bl true) H'
def sp__law_told_right (K : PySem.W.Frag) : Sp := fun vs H Q _ => ∃ (a dx : Addr) (c : Int) (s : StA) (past : List (Act × StA)) (busy : Bool) (att : Int) (B R P v : V), vs = [.ref a, .int c, v] ∧ ColO K H a c s past busy att dx B R P ∧ StV c s ∧ s.2.length ≤ 100 ∧ Dp K H v (stD s) ∧ (tabOf (runsR s.2)).length ≤ 12 ∧ ∀ H', Same H H' → Q (.bl true) H'
def sp__law_drawn (K : PySem.W.Frag) : Sp := fun vs H Q _ => ∃ (p a : Addr) (ws : List Str) (c : Int) (sv : V) (s : StA) (m : Nat), vs = [.ref p, .int c, .ref a, sv, .int (m : Nat)] ∧ H p = some (poolO p) ∧ SqL K H a (ws.map V.str) ∧ WordsOk ws ws.length ∧ 1 ≤ ws.length ∧ ws.length ≤ 12 ∧ 1 ≤ c ∧ c ≤ 8 ∧ StL K H sv s ∧ StV c s ∧ s.2.length + m ≤ 90 ∧ RowsW ws s.2 ∧ ∀ L LP LS ps ss acts H', Same H H' → H' L = some (.lst [.ref LP, .ref LS]) → H' LP = some (.lst ps) → H' LS = some (.lst ss) → DpAll K H' ps (acts.map actD) → All2 (StL K H') ss (statesA s acts) → acts.length ≤ m → ActsV c s acts → RunsW ws s acts → Q (.ref L) H'
def sp__law_in_groups (K : PySem.W.Frag) : Sp := fun vs H Q _ => ∃ (a dx : Addr) (c : Int) (s : StA) (past : List (Act × StA)) (att : Int) (B R P : V) (p wa LP LS : Addr) (ws : List Str) (ps ss : List V) (acts : List Act), vs = [.ref a, .ref p, .ref wa, .ref LP, .ref LS] ∧ ColO K H a c s past false att dx B R P ∧ StV c s ∧ H p = some (poolO p) ∧ SqL K H wa (ws.map V.str) ∧ WordsOk ws ws.length ∧ 1 ≤ ws.length ∧ ws.length ≤ 12 ∧ SqL K H LP ps ∧ SqL K H LS ss ∧ DpAll K H ps (acts.map actD) ∧ All2 (StL K H) ss (statesA s acts) ∧ ActsV c s acts ∧ s.2.length + acts.length ≤ 80 ∧ acts.length ≤ 1000 ∧ past.length + acts.length ≤ 1000 ∧ RunsW ws s acts ∧ ∀ H' B' R' P' att', SameB a H H' → ColO K H' a c (runS s acts) (past ++ histA s acts) false att' dx B' R' P' → Q .non H'
def sp__law_all_told (K : PySem.W.Frag) : Sp := fun vs H Q _ => ∃ (a dx : Addr) (c : Int) (s : StA) (past : List (Act × StA)) (busy : Bool) (att : Int) (B R P : V) (j : Nat) (w : Str), vs = [.ref a, .int (j : Nat), .str w] ∧ ColO K H a c s past busy att dx B R P ∧ StV c s ∧ s.2.length ≤ 12 ∧ (tabOf (runsR s.2)).length ≤ 12 ∧ j ≤ s.2.length ∧ isName w = true ∧ ∀ t H', Same H H' → ToldT c s (runS s [.insert j w 3, .start []]) t → Q (.str t) H'
def sp__law_all_same (K : PySem.W.Frag) : Sp := fun vs H Q _ => ∃ (L : Addr) (xs : List V) (c : Int) (s : StA) (j : Nat) (w : Str), vs = [.ref L, .int (j : Nat), .str w] ∧ H L = some (.lst xs) ∧ 1 ≤ xs.length ∧ xs.length ≤ 10 ∧ (∀ v ∈ xs, ColE K H c s v) ∧ StV c s ∧ s.2.length ≤ 12 ∧ (tabOf (runsR s.2)).length ≤ 12 ∧ j ≤ s.2.length ∧ isName w = true ∧ ∀ H', Same H H' → Q (.bl true) H'
def sp__law_right (K : PySem.W.Frag) : Sp := fun vs H Q _ => ∃ (p : Addr), vs = [.ref p] ∧ H p = some (poolO p) ∧ ∀ H', Same H H' → Q (.bl true) H'
def sp_law (K : PySem.W.Frag) : Sp := fun vs H Q _ => ∃ (a : Addr) (ns : List Int), vs = [.ref a] ∧ SqL K H a (ns.map V.int) ∧ ns.length ≤ 63 ∧ ∀ H', Q (.bl true) H'
theorem ok_is_whole {P : Program} {w : World} {K : PySem.W.Frag} {mg : Str → Option Value} {base : Heap} (fr : Fre mg) (D : Dfd K mg "is_whole" s_is_whole) : Has P w K mg base CX0 1 "is_whole" s_is_whole ["thing"] (sp_is_whole K) := by
  refine D.has sc_is_whole (fun vs H Q E h => ?_) (fun cdv A outer s H vs Q E hr hg h => ?_)
  · obtain ⟨v, d, rfl, _⟩ := h; rfl
  · obtain ⟨v, d, rfl, hd, k⟩ := h
    have nd := sc_is_whole.nd
    refine ⟨_, PSs.nox (pss_one (ps_ret (pe_and (pe_callB (k_isi K) rfl fr.isinstance_ (by decide +kernel) (pa_cons (pv 0) (pa_cons (pe_bltn (v := .ty "int") rfl fr.int_ boot_int rfl) pa_nil))) (pe_one (pe_not (pe_callB (k_isi K) rfl fr.isinstance_ (by decide +kernel) (pa_cons (pv 0) (pa_cons (pe_bltn (v := .ty "bool") rfl fr.bool_ boot_bool rfl) pa_nil)))))))), ?_⟩
    try dsimp only [cxOf]
    tm_at "wp"
    refine w_isiD hd (isi_int d) ?_
    cases d
    all_goals first
      | (refine w_bl (w_iteF ?_); tm_at "wp"; exact k)
      | (refine w_bl (w_iteT ?_); tm_at "wp"; refine w_isiD hd (isi_bool _) ?_; tm_at "wp"; exact k)
theorem ok_is_from {P : Program} {w : World} {K : PySem.W.Frag} {mg : Str → Option Value} {base : Heap} (fr : Fre mg) (D : Dfd K mg "is_from" s_is_from)
    (h_is_whole : Has P w K mg base CX0 1 "is_whole" s_is_whole ["thing"] (sp_is_whole K)) : Has P w K mg base CX0 2 "is_from" s_is_from ["thing", "least"] (sp_is_from K) := by
  refine D.has sc_is_from (fun vs H Q E h => ?_) (fun cdv A outer s H vs Q E hr hg h => ?_)
  · obtain ⟨v, d, j, rfl, _⟩ := h; rfl
  · obtain ⟨v, d, j, rfl, hd, k⟩ := h
    have nd := sc_is_from.nd
    refine ⟨_, PSs.nox (pss_one (ps_ret (pe_and (pe_fn h_is_whole pb_is_whole (hr.mono (by decide)) hg rfl pass0 (pa_cons (pv 0) pa_nil)) (pe_one (pe_cmpR op_ge (pv 0) (pv 1) (nomark _)))))), ?_⟩
    try dsimp only [cxOf]
    tm_at "wp"
    refine ⟨v, d, rfl, hd, ?_⟩
    cases d
    case int i =>
      cases dp_int_inv hd
      refine w_bl (w_iteT ?_)
      tm_at "wp"
      exact k
    all_goals (refine w_bl (w_iteF ?_); tm_at "wp"; exact k)
theorem ok_is_between {P : Program} {w : World} {K : PySem.W.Frag} {mg : Str → Option Value} {base : Heap} (fr : Fre mg) (D : Dfd K mg "is_between" s_is_between)
    (h_is_whole : Has P w K mg base CX0 1 "is_whole" s_is_whole ["thing"] (sp_is_whole K)) : Has P w K mg base CX0 2 "is_between" s_is_between ["thing", "least", "most"] (sp_is_between K) := by
  refine D.has sc_is_between (fun vs H Q E h => ?_) (fun cdv A outer s H vs Q E hr hg h => ?_)
  · obtain ⟨v, d, i, j, rfl, _⟩ := h; rfl
  · obtain ⟨v, d, i, j, rfl, hd, k⟩ := h
    have nd := sc_is_between.nd
    refine ⟨_, PSs.nox (pss_one (ps_ret (pe_and (pe_fn h_is_whole pb_is_whole (hr.mono (by decide)) hg rfl pass0 (pa_cons (pv 0) pa_nil)) (pe_one (pe_chain op_le op_le (pv 1) (pv 0) (pv 2)))))), ?_⟩
    try dsimp only [cxOf]
    tm_at "wp"
    refine ⟨v, d, rfl, hd, ?_⟩
    cases d
    case int n =>
      cases dp_int_inv hd
      refine w_bl (w_iteT ?_)
      tm_at "wp"
      refine w_ited (fun h => ?_) (fun h => ?_)
      · tm_at "wp"
        have e : betD (.int n) i j = decide (n ≤ j) := by show (decide (i ≤ n) && decide (n ≤ j)) = _; rw [decide_eq_true h]; rfl
        rw [e] at k
        exact k
      · have e : betD (.int n) i j = false := by show (decide (i ≤ n) && decide (n ≤ j)) = _; rw [decide_eq_false h]; rfl
        rw [e] at k
        exact k
    all_goals (refine w_bl (w_iteF ?_); tm_at "wp"; exact k)
theorem ok_is_capacity {P : Program} {w : World} {K : PySem.W.Frag} {mg : Str → Option Value} {base : Heap} (fr : Fre mg) (c_MAX_CAPACITY : ∃ t, mg "MAX_CAPACITY" = some (.int 8 t)) (D : Dfd K mg "is_capacity" s_is_capacity)
    (h_is_between : Has P w K mg base CX0 2 "is_between" s_is_between ["thing", "least", "most"] (sp_is_between K)) : Has P w K mg base CX0 3 "is_capacity" s_is_capacity ["thing"] (sp_is_capacity K) := by
  refine D.has sc_is_capacity (fun vs H Q E h => ?_) (fun cdv A outer s H vs Q E hr hg h => ?_)
  · obtain ⟨v, d, rfl, _⟩ := h; rfl
  · obtain ⟨v, d, rfl, hd, k⟩ := h
    obtain ⟨_, g_MAX_CAPACITY⟩ := c_MAX_CAPACITY
    have nd := sc_is_capacity.nd
    refine ⟨_, PSs.nox (pss_one (ps_ret (pe_fn h_is_between pb_is_between (hr.mono (by decide)) hg rfl pass0 (pa_cons (pv 0) (pa_cons pe_int (pa_cons (pe_glob (v := .int 8) rfl g_MAX_CAPACITY ⟨_, rfl⟩) pa_nil)))))), ?_⟩
    try dsimp only [cxOf]
    tm_at "wp"
    exact ⟨v, d, 1, 8, rfl, hd, k⟩
theorem ok_is_name {P : Program} {w : World} {K : PySem.W.Frag} {mg : Str → Option Value} {base : Heap} (fr : Fre mg) (c_LETTERS : ∃ t, mg "LETTERS" = some (.str "abcdefghijklmnopqrstuvwxyz" t)) (D : Dfd K mg "is_name" s_is_name) : Has P w K mg base CX0 1 "is_name" s_is_name ["thing"] (sp_is_name K) := by
  refine D.has sc_is_name (fun vs H Q E h => ?_) (fun cdv A outer s H vs Q E hr hg h => ?_)
  · obtain ⟨v, d, rfl, _⟩ := h; rfl
  · obtain ⟨v, d, rfl, hd, hz, k⟩ := h
    obtain ⟨_, g_LETTERS⟩ := c_LETTERS
    have nd := sc_is_name.nd
    refine ⟨_, PSs.nox (pss_one (ps_ret (pe_and (pe_callB (k_isi K) rfl fr.isinstance_ (by decide +kernel) (pa_cons (pv 0) (pa_cons (pe_bltn (v := .ty "str") rfl fr.str_ boot_str rfl) pa_nil))) (pe_and (pe_chain op_lt op_lt pe_int (pe_callB (k_len K) rfl fr.len_ (by decide +kernel) (pa_cons (pv 0) pa_nil)) pe_int) (pe_one (pe_callB (k_all K rfl) rfl fr.all_ (by decide +kernel) (pa_cons (pe_lc (own := [("letter", 1)]) (g := gName 1) (tt := tYes) rfl nd (pi_str (pv 0)) (blkOk_by (own := [("letter", 1)]) (N := N_is_name) (sc := defScope s_is_name) (by decide +kernel)) (fun _ _ _ _ _ => (pg_name (i := 1) nd rfl (Or.inl rfl))) (fun _ _ _ _ _ => pts_nil) (fun _ _ _ _ _ => (pe_cmpR o_inSign (pv 1) (pe_glob (v := .str "abcdefghijklmnopqrstuvwxyz") rfl g_LETTERS ⟨_, rfl⟩) rfl))) pa_nil))))))), ?_⟩
    try dsimp only [cxOf]
    tm_at "wp"
    refine w_isiD hd (isi_str d) ?_
    cases d
    case str x =>
      cases dp_str_inv hd
      have hx : x.length ≤ 100000 := by simpa [szD] using hz
      have kk : ∀ H' b, Same H H' → b = isName x → Q (.bl b) H' := fun H' b s e => by rw [e]; exact k H' s
      refine w_bl (w_iteT ?_)
      tm_at "wp"
      refine w_lenS (sz_le hx) ?_
      tm_at "wp"
      refine w_ited (fun h1 => ?_) (fun h1 => ?_)
      · tm_at "wp"
        refine w_iteb (fun h2 => ?_) (fun h2 => ?_)
        · tm_at "wp"
          intro D0 hD
          refine lc_map walk_str (n := x.cps.size) (by have : x.length = x.cps.size := rfl; omega) (fun i y => ∃ c, x.cps.toList[i]? = some c ∧ y = .bl (isLet c)) hD (fun _ _ => trivial) ?_ ?_ mono_gname
          · rintro i y H1 H2 hi s ⟨rfl, c, hc, rfl⟩ Qy hq
            refine w_gname ⟨rfl, ?_⟩
            tm_at "wp"
            refine hq _ _ (Same.refl _) ⟨c, by simpa using hc, ?_⟩
            show V.bl (decide (c ∈ letters.cps.toList)) = _
            rw [mem_letters]
          · intro acc H1 s _ hacc hl hf
            have e : acc = (x.cps.toList.map isLet).map V.bl := by
              rw [List.map_map]
              exact acc_map (by simpa using hl) hf
            rw [e] at hacc
            refine w_all (SqL.of hacc) ?_
            refine kk _ _ s ?_
            rw [all_map_id]
            unfold isName
            rw [decide_eq_true (show 0 < x.length by omega), decide_eq_true (show x.length < 9 by have := of_decide_eq_true h2; omega)]
            simp
        · refine kk _ _ (Same.refl _) ?_
          unfold isName
          rw [decide_eq_false (show ¬ x.length < 9 by have := of_decide_eq_false h2; omega)]
          simp
      · refine w_bl (w_iteF ?_)
        refine kk _ _ (Same.refl _) ?_
        unfold isName
        rw [decide_eq_false (show ¬ 0 < x.length by omega)]
        simp
    all_goals (refine w_bl (w_iteF ?_); tm_at "wp"; exact k _ (Same.refl _))
theorem ok_is_run {P : Program} {w : World} {K : PySem.W.Frag} {mg : Str → Option Value} {base : Heap} (fr : Fre mg) (D : Dfd K mg "is_run" s_is_run)
    (h_is_from : Has P w K mg base CX0 2 "is_from" s_is_from ["thing", "least"] (sp_is_from K))
    (h_is_name : Has P w K mg base CX0 1 "is_name" s_is_name ["thing"] (sp_is_name K)) : Has P w K mg base CX0 3 "is_run" s_is_run ["thing"] (sp_is_run K) := by
  refine D.has sc_is_run (fun vs H Q E h => ?_) (fun cdv A outer s H vs Q E hr hg h => ?_)
  · obtain ⟨v, d, rfl, _⟩ := h; rfl
  · obtain ⟨v, d, rfl, hd, hz, k⟩ := h
    have nd := sc_is_run.nd
    refine ⟨_, PSs.nox (pss_one (ps_ret (pe_and (pe_callB (k_isi K) rfl fr.isinstance_ (by decide +kernel) (pa_cons (pv 0) (pa_cons (pe_bltn (v := .ty "tuple") rfl fr.tuple_ boot_tuple rfl) pa_nil))) (pe_and (pe_cmpR op_eq (pe_callB (k_len K) rfl fr.len_ (by decide +kernel) (pa_cons (pv 0) pa_nil)) pe_int (nomark _)) (pe_and (pe_fn h_is_name pb_is_name (hr.mono (by decide)) hg rfl pass0 (pa_cons (pe_ix (k_ixT K) (pv 0) pe_int (fun _ _ => rfl)) pa_nil)) (pe_one (pe_fn h_is_from pb_is_from (hr.mono (by decide)) hg rfl pass0 (pa_cons (pe_ix (k_ixT K) (pv 0) pe_int (fun _ _ => rfl)) (pa_cons pe_int pa_nil))))))))), ?_⟩
    try dsimp only [cxOf]
    tm_at "wp"
    refine w_isiD hd (isi_tup d) ?_
    cases d
    case tuple ds =>
      obtain ⟨a, xs, rfl, hs, hx⟩ := dp_tup_inv hd
      have hl := dps_len hx
      refine w_bl (w_iteT ?_)
      tm_at "wp"
      refine w_lenT hs ?_
      tm_at "wp"
      refine w_ited (fun h1 => ?_) (fun h1 => ?_)
      · obtain ⟨d0, d1, rfl⟩ : ∃ d0 d1, ds = [d0, d1] := by
          match ds, (by omega : ds.length = 2) with
          | [d0, d1], _ => exact ⟨d0, d1, rfl⟩
        cases hx with
        | @cons v0 _ _ _ r0 hx =>
        cases hx with
        | @cons v1 _ _ _ r1 hx =>
        cases hx
        have z0 : szD d0 = true := szDs_get (ds := [d0, d1]) (i := 0) (by simpa [szD] using hz) rfl
        tm_at "wp"
        refine w_ixT hs (v := v0) rfl ?_
        tm_at "wp"
        refine ⟨v0, d0, rfl, r0, z0, fun H1 s1 => ?_⟩
        refine w_bl (w_iteb (fun h3 => ?_) (fun h3 => ?_))
        · tm_at "wp"
          refine w_ixT (sqt_same s1 hs) (v := v1) rfl ?_
          tm_at "wp"
          refine ⟨v1, d1, 1, rfl, dp_same s1 r1, ?_⟩
          have e : runD (.tuple [d0, d1]) = fromD d1 1 := by show (nameD d0 && fromD d1 1) = _; rw [h3]; rfl
          rw [e] at k
          exact k _ s1
        · have e : runD (.tuple [d0, d1]) = false := by show (nameD d0 && fromD d1 1) = _; rw [h3]; rfl
          rw [e] at k
          exact k _ s1
      · have e : runD (.tuple ds) = false := by
          unfold runD
          split
          · exfalso; rename_i heq; injection heq with heq; subst heq; exact h1 (by rw [hl]; rfl)
          · rfl
        rw [e] at k
        tm_at "wp"
        exact k _ (Same.refl _)
    all_goals (refine w_bl (w_iteF ?_); tm_at "wp"; exact k _ (Same.refl _))
theorem ok_first_invalid {P : Program} {w : World} {K : PySem.W.Frag} {mg : Str → Option Value} {base : Heap} (fr : Fre mg) (D : Dfd K mg "first_invalid" s_first_invalid)
    (h_is_run : Has P w K mg base CX0 3 "is_run" s_is_run ["thing"] (sp_is_run K)) : Has P w K mg base CX0 4 "first_invalid" s_first_invalid ["thing", "most"] (sp_first_invalid K) := by
  refine D.has sc_first_invalid (fun vs H Q E h => ?_) (fun cdv A outer s H vs Q E hr hg h => ?_)
  · obtain ⟨v, ds, m, rfl, _⟩ := h; rfl
  · obtain ⟨v, ds, m, rfl, hd, hz, k⟩ := h
    have nd := sc_first_invalid.nd
    refine ⟨_, PSs.nox (pss_cons (ps_for PassesOwn.never rfl (k_iEnumT K rfl fr.enumerate_ (pa_cons (pv 0) pa_nil)) (k_gtup K rfl (pgs_cons (pg_name (i := 2) nd rfl (Or.inl rfl)) (pgs_cons (pg_name (i := 3) nd rfl (Or.inl rfl)) pgs_nil)))
        (pss_one (ps_if (PW.pt (pw_or (pt_cmpR op_ge (pv 2) (pv 1) (nomark _)) (pw_or (pt_not (pt_val (pe_fn h_is_run pb_is_run (hr.mono (by decide)) hg rfl pass0 (pa_cons (pv 3) pa_nil)))) (pw_or1 (PW.pt (pw_and (pt_cmpR op_gt (pv 2) pe_int (nomark _)) (pw_and1 (pt_cmpR o_leS (pe_ix (k_ixT K) (pv 3) pe_int (fun _ _ => rfl)) (pe_ix (k_ixT K) (pe_ix (k_ixT K) (pv 0) (pe_op op_sub (pv 2) pe_int) (fun _ _ => rfl)) pe_int (fun _ _ => rfl)) (nomark _))))))))) (pss_one (ps_ret (pv 2))) pss_nil)))
      (pss_one (ps_ret pe_non))), ?_⟩
    try dsimp only [cxOf]
    obtain ⟨a, xs, rfl, hs, hx⟩ := dp_tup_inv hd
    have hl := dps_len hx
    tm_at "wp"
    refine w_onE hs ?_
    refine for_go (walk_enumT (xs := xs)) (fun i σ H' => ∃ u w, σ = [some (.ref a), some (.int m), u, w] ∧ Same H H' ∧ ∀ j, j < i → badAt ds m j = false) ⟨none, none, rfl, Same.refl _, fun j h => by omega⟩ (fun i σ H' _ ⟨_, _, _, s, _⟩ => sqt_same s hs) ?_ ?_
    · rintro i v σ H1 H2 hi ⟨u, w, rfl, s1, hp⟩ ⟨T, y, x, rfl, hT, rfl, ey, ex⟩
      cases (Option.some.inj ey)
      obtain ⟨d, e1, e2⟩ := dps_get hx ex
      have hgd := getD_of e1
      have s2 : Same H (upd H1 T (.tup [.int (i : Nat), x])) := same_step s1 hT
      refine w_gtup (SqT.of upd_same) rfl ?_
      tm_at "wp"
      have hbad : ∀ c, badAt ds m i = c → c = (decide (m ≤ (i : Int)) || (!runD d || (decide (0 < i) && !decide (ltS (nmD (ds.getD (i - 1) .none)) (nmD d))))) := fun c e => by rw [← e]; unfold badAt; rw [hgd]
      have ret : badAt ds m i = true → ∀ H', Same H H' → Q (.int (i : Nat)) H' := fun hb H' s' => by
        have e := firstBad_some (by omega) hb hp
        rw [e] at k
        exact k H' s'
      have nxt : badAt ds m i = false → ∀ j, j < i + 1 → badAt ds m j = false := fun hb j hj => by
        by_cases e : j = i
        · rw [e]; exact hb
        · exact hp j (by omega)
      refine w_ited (fun h1 => ?_) (fun h1 => ?_)
      · tm_at "wp"
        refine ret ?_ _ s2
        unfold badAt
        rw [decide_eq_true h1]; rfl
      · tm_at "wp"
        refine ⟨x, d, rfl, dp_same s2 e2, szDs_get hz e1, fun H3 s3 => ?_⟩
        have s4 := s2.trans s3
        refine w_bl ?_
        refine w_itenb (fun h2 => ?_) (fun h2 => ?_)
        · tm_at "wp"
          refine ret ?_ _ s4
          unfold badAt
          rw [hgd, h2]; simp
        · tm_at "wp"
          obtain ⟨b, nx, wx, rfl, hb, en⟩ := run_inv e2 h2
          refine w_ited (fun h3 => ?_) (fun h3 => ?_)
          · tm_at "wp"
            refine w_ixT (sqt_same s4 hb) (v := .str nx) rfl ?_
            tm_at "wp"
            have hi0 : i - 1 < ds.length := by omega
            have g0 : badAt ds m (i - 1) = false := hp (i - 1) (by omega)
            obtain ⟨v1, q1, q2⟩ := dps_get' hx (List.getElem?_eq_getElem hi0)
            have r1 : runD ds[i - 1] = true := by
              unfold badAt at g0
              rw [getD_of (List.getElem?_eq_getElem hi0)] at g0
              cases z : runD ds[i - 1]
              · rw [z] at g0; simp at g0
              · rfl
            obtain ⟨b1, nx1, wx1, rfl, hb1, en1⟩ := run_inv q2 r1
            refine w_ixT (sqt_same s4 hs) (v := .ref b1) ?_ ?_
            · have e : ((i : Nat) : Int) - 1 = ((i - 1 : Nat) : Int) := by omega
              rw [e]; exact atI_nat q1
            tm_at "wp"
            refine w_ixT (sqt_same s4 hb1) (v := .str nx1) rfl ?_
            tm_at "wp"
            have key : badAt ds m i = !decide (ltS nx1 nx) := by
              unfold badAt
              rw [hgd, getD_of (List.getElem?_eq_getElem hi0), h2, en, en1, decide_eq_false h1, decide_eq_true (show 0 < i by omega)]
              simp
            refine w_iten (fun h4 => ?_) (fun h4 => ?_)
            · tm_at "wp"
              refine ret ?_ _ s4
              rw [key, decide_eq_false (show ¬ ltS nx1 nx from h4)]; rfl
            · tm_at "wp"
              refine ⟨_, _, rfl, s4, nxt ?_⟩
              rw [key, decide_eq_true (show ltS nx1 nx from h4)]; rfl
          · tm_at "wp"
            refine ⟨_, _, rfl, s4, nxt ?_⟩
            unfold badAt
            rw [hgd, h2, decide_eq_false h1, decide_eq_false (show ¬ 0 < i by omega)]; rfl
    · rintro σ H1 ⟨u, w, rfl, s1, hp⟩
      tm_at "wp"
      have e := firstBad_none (ds := ds) (m := m) fun j hj => hp j (by omega)
      rw [e] at k
      exact k _ s1
theorem ok_check_capacity {P : Program} {w : World} {K : PySem.W.Frag} {mg : Str → Option Value} {base : Heap} (fr : Fre mg) (D : Dfd K mg "check_capacity" s_check_capacity)
    (h_is_capacity : Has P w K mg base CX0 3 "is_capacity" s_is_capacity ["thing"] (sp_is_capacity K)) : Has P w K mg base CX0 4 "check_capacity" s_check_capacity ["thing"] (sp_check_capacity K) := by
  refine D.has sc_check_capacity (fun vs H Q E h => ?_) (fun cdv A outer s H vs Q E hr hg h => ?_)
  · obtain ⟨c, rfl, _⟩ := h; rfl
  · obtain ⟨c, rfl, h1, h8, k⟩ := h
    have nd := sc_check_capacity.nd
    refine ⟨_, PSs.nox (pss_one (ps_if (pt_not (pt_val (pe_fn h_is_capacity pb_is_capacity (hr.mono (by decide)) hg rfl pass0 (pa_cons (pv 0) pa_nil)))) (pss_one ps_never) pss_nil)), ?_⟩
    try dsimp only [cxOf]
    tm_at "wp"
    refine ⟨.int c, .int c, rfl, .int c, ?_⟩
    have e : betD (.int c) 1 8 = true := by show (decide (1 ≤ c) && decide (c ≤ 8)) = true; rw [decide_eq_true h1, decide_eq_true h8]; rfl
    rw [e]
    refine w_bl ?_
    refine w_nott ?_
    tm_at "wp"
    exact k
theorem ok_check_name {P : Program} {w : World} {K : PySem.W.Frag} {mg : Str → Option Value} {base : Heap} (fr : Fre mg) (D : Dfd K mg "check_name" s_check_name)
    (h_is_name : Has P w K mg base CX0 1 "is_name" s_is_name ["thing"] (sp_is_name K)) : Has P w K mg base CX0 2 "check_name" s_check_name ["thing"] (sp_check_name K) := by
  refine D.has sc_check_name (fun vs H Q E h => ?_) (fun cdv A outer s H vs Q E hr hg h => ?_)
  · obtain ⟨x, rfl, _⟩ := h; rfl
  · obtain ⟨x, rfl, hn, k⟩ := h
    have nd := sc_check_name.nd
    refine ⟨_, PSs.nox (pss_one (ps_if (pt_not (pt_val (pe_fn h_is_name pb_is_name (hr.mono (by decide)) hg rfl pass0 (pa_cons (pv 0) pa_nil)))) (pss_one ps_never) pss_nil)), ?_⟩
    try dsimp only [cxOf]
    tm_at "wp"
    refine ⟨.str x, .str x, rfl, .str x, by simp [szD]; have := (isName_len hn).2; omega, fun H1 s1 => ?_⟩
    refine w_bl ?_
    show if (!(isName x)) = true then _ else _
    rw [hn]
    refine w_nott ?_
    tm_at "wp"
    exact k _ s1
theorem ok_table_of {P : Program} {w : World} {K : PySem.W.Frag} {mg : Str → Option Value} {base : Heap} (fr : Fre mg) (D : Dfd K mg "table_of" s_table_of) : Has P w K mg base CX0 1 "table_of" s_table_of ["pairs"] (sp_table_of K) := by
  refine D.has sc_table_of (fun vs H Q E h => ?_) (fun cdv A outer s H vs Q E hr hg h => ?_)
  · obtain ⟨v, ps, rfl, _⟩ := h; rfl
  · obtain ⟨v, ps, rfl, hd, hn, k⟩ := h
    have nd := sc_table_of.nd
    refine ⟨_, PSs.nox (pss_cons (ps_set (i := 1) nd rfl (Or.inl rfl) pe_dnewK)
      (pss_cons (ps_for PassesOwn.never rfl (k_iSeq K (pv 0)) (k_gtup K rfl (pgs_cons (pg_name (i := 2) nd rfl (Or.inl rfl)) (pgs_cons (pg_name (i := 3) nd rfl (Or.inl rfl)) pgs_nil)))
        (pss_one (ps_dput (hu_of hr) (pv 1) (pv 2) (pe_op op_add (pe_dget2 (hu_of hr) (pv 1) (pv 2) pe_int ⟨rfl, rfl, rfl, rfl⟩) (pv 3)) rfl)))
      (pss_one (ps_ret (pv 1))))), ?_⟩
    try dsimp only [cxOf]
    rcases hd with hd | ⟨l, xs, rfl, hl, hx⟩
    · obtain ⟨a, xs, rfl, hs, hx, hl⟩ := bag_inv hd
      tm_at "wp"
      rename_i d hd0
      refine w_iSeq ?_
      tm_at "wp"
      refine .inl (w_onT (sqt_same (same_new hd0) hs) ?_)
      refine for_go (walk_tup (xs := xs)) (fun i σ H' => ∃ u w, σ = [some (.ref a), some (.ref d), u, w] ∧ Same H H' ∧ H' d = some (.dK (kvOf (tabOf (ps.take i))))) ⟨none, none, rfl, same_new hd0, upd_same⟩ (fun i σ H' _ ⟨_, _, _, s, _⟩ => sqt_same s hs) ?_ ?_
      · rintro i v σ H1 H2 hi ⟨u, w, rfl, s1, hd1⟩ ⟨rfl, hy⟩
        obtain ⟨p, b, e1, rfl, hb⟩ := bag_get hx hy
        have hlen : (tabOf (ps.take i)).length ≤ 100000 := by have := tabOf_len (ps.take i); rw [List.length_take] at this; omega
        refine w_gtup (sqt_same s1 hb) rfl ?_
        tm_at "wp"
        refine w_isD hd1 ?_
        tm_at "wp"
        refine w_dgetk hd1 ?_
        rw [kv_get]
        tm_at "wp"
        refine w_dputk hd1 (by rw [kv_len]; exact Nat.lt_of_le_of_lt hlen (by decide)) ?_
        tm_at "wp"
        refine ⟨_, _, rfl, same_mut s1 hd0, ?_⟩
        rw [kv_put, upd_same, take_succ_snoc e1, tabOf_snoc]
        rfl
      · rintro σ H1 ⟨u, w, rfl, s1, hd1⟩
        tm_at "wp"
        refine k d _ hd0 s1 ?_
        rw [hd1, List.take_of_length_le (by omega)]
    · have hxl : xs.length = ps.length := by rw [dps_len hx, List.length_map]
      tm_at "wp"
      rename_i d hd0
      refine w_iSeq ?_
      tm_at "wp"
      refine .inr (w_onL (SqL.of (hp_new hl hd0)) ?_)
      refine for_go (walk_list (xs := xs)) (fun i σ H' => ∃ u w, σ = [some (.ref l), some (.ref d), u, w] ∧ Same H H' ∧ H' d = some (.dK (kvOf (tabOf (ps.take i))))) ⟨none, none, rfl, same_new hd0, upd_same⟩ (fun i σ H' _ ⟨_, _, _, s, _⟩ => SqL.of (s _ _ hl)) ?_ ?_
      · rintro i v σ H1 H2 hi ⟨u, w, rfl, s1, hd1⟩ ⟨rfl, hy⟩
        obtain ⟨p, b, e1, rfl, hb⟩ := bag_get hx hy
        have hlen : (tabOf (ps.take i)).length ≤ 100000 := by have := tabOf_len (ps.take i); rw [List.length_take] at this; omega
        refine w_gtup (sqt_same s1 hb) rfl ?_
        tm_at "wp"
        refine w_isD hd1 ?_
        tm_at "wp"
        refine w_dgetk hd1 ?_
        rw [kv_get]
        tm_at "wp"
        refine w_dputk hd1 (by rw [kv_len]; exact Nat.lt_of_le_of_lt hlen (by decide)) ?_
        tm_at "wp"
        refine ⟨_, _, rfl, same_mut s1 hd0, ?_⟩
        rw [kv_put, upd_same, take_succ_snoc e1, tabOf_snoc]
        rfl
      · rintro σ H1 ⟨u, w, rfl, s1, hd1⟩
        tm_at "wp"
        refine k d _ hd0 s1 ?_
        rw [hd1, List.take_of_length_le (by omega)]
theorem ok_counts_of_table {P : Program} {w : World} {K : PySem.W.Frag} {mg : Str → Option Value} {base : Heap} (fr : Fre mg) (D : Dfd K mg "counts_of_table" s_counts_of_table) : Has P w K mg base CX0 1 "counts_of_table" s_counts_of_table ["table"] (sp_counts_of_table K) := by
  refine D.has sc_counts_of_table (fun vs H Q E h => ?_) (fun cdv A outer s H vs Q E hr hg h => ?_)
  · obtain ⟨a, t, rfl, _⟩ := h; rfl
  · obtain ⟨a, t, rfl, ha, hn, hl, k⟩ := h
    have nd := sc_counts_of_table.nd
    refine ⟨_, PSs.nox (pss_one (ps_ret (pe_callTy (k_tuple K) rfl fr.tuple_ (by decide +kernel) (pa_cons (pe_lc (own := [("name", 1)]) (g := gName 1) rfl nd (k_iList K (pe_callB (c_sortedDk rfl) rfl fr.sorted_ (by decide +kernel) (pa_cons (pv 0) pa_nil))) (blkOk_by (own := [("name", 1)]) (N := N_counts_of_table) (sc := defScope s_counts_of_table) (by decide +kernel)) (fun _ _ _ _ _ => (pg_name (i := 1) nd rfl (Or.inl rfl))) (fun _ _ _ _ _ => (pts_one (pt_cmpR op_gt (pe_dget (hu_of hr) (pv 0) (pv 1) (fun _ _ => rfl)) pe_int (nomark _)))) (fun _ _ _ _ _ => (pe_tup (pa_cons (pv 1) (pa_cons (pe_dget (hu_of hr) (pv 0) (pv 1) (fun _ _ => rfl)) pa_nil))))) pa_nil)))), ?_⟩
    try dsimp only [cxOf]
    tm_at "wp"
    refine w_sortedDk ha hl ?_
    intro ys q hperm hsorted hq
    have asc := sorted_asc hsorted (hperm.nodup_iff.mpr hn)
    have hlen : ys.length = t.length := by rw [hperm.length_eq, List.length_map]
    refine w_onL (SqL.of upd_same) ?_
    intro D0 hD
    refine lc_fmd K (walk_list (xs := ys.map V.str)) ys (fun y => if 0 < getT t y then some (pairD (y, getT t y)) else none) (by rw [List.length_map]) (by rw [List.length_map]; omega) (fun y d e => ?_) hD (fun _ s => s.seq (SqL.of upd_same)) ?_ ?_
    · by_cases z : 0 < getT t y
      · rw [if_pos z] at e; cases e; rfl
      · rw [if_neg z] at e; cases e
    · rintro i y n H1 H2 hi s ⟨rfl, hy⟩ Qy Qn hq1 hq2
      have ey : y = .str n := by rw [List.getElem?_map, hi] at hy; exact (Option.some.inj hy).symm
      subst ey
      have hin : n ∈ t.map (·.1) := hperm.mem_iff.mp (List.mem_of_getElem? hi)
      have ha1 : H2 a = some (.dK (kvOf t)) := s _ _ (hp_new ha hq)
      refine w_gname ⟨rfl, ?_⟩
      tm_at "wp"
      refine w_dgetc ha1 (kv_some hin) ?_
      tm_at "wp"
      refine w_ited (fun h => ?_) (fun h => ?_)
      · tm_at "wp"
        refine w_dgetc ha1 (kv_some hin) ?_
        tm_at "wp"
        rename_i T hT
        exact hq1 _ _ _ (same_new hT) (if_pos h) (pair_mk (SqT.of upd_same))
      · tm_at "wp"
        exact hq2 _ (Same.refl _) (if_neg h)
    · intro acc H1 s1 _ hacc hdp
      have e : (ys.filterMap fun y => if 0 < getT t y then some (pairD (y, getT t y)) else none) = (canF (getT t) ys).map pairD := by
        unfold canF
        rw [List.map_filterMap]
        congr 1
        funext y
        by_cases z : 0 < getT t y
        · rw [if_pos z, if_pos z]; rfl
        · rw [if_neg z, if_neg z]; rfl
      rw [e] at hdp
      tm_at "wp"
      refine w_tupL (SqL.of hacc) ?_
      intro T hT
      refine k (.ref T) _ _ (((same_new hq).trans s1).trans (same_new hT)) (.tup (SqT.of upd_same) (dps_same (same_new hT) hdp)) (canF_can hperm asc) (by have := canF_len (getT t) ys; omega) fun p hp => hperm.mem_iff.mp (canF_mem hp).1
theorem ok_counts_text {P : Program} {w : World} {K : PySem.W.Frag} {mg : Str → Option Value} {base : Heap} (fr : Fre mg) (D : Dfd K mg "counts_text" s_counts_text) : HasA P w K mg base CX0 1 "counts_text" s_counts_text ["counts"] (sp_counts_text K) := by
  refine D.hasA sc_counts_text (fun vs H Q E h => ?_) (fun cdv A outer s H vs Q E hr h => ?_)
  · obtain ⟨v, ps, rfl, _⟩ := h; rfl
  · obtain ⟨v, ps, rfl, hd, hb, hn, k⟩ := h
    have nd := sc_counts_text.nd
    refine ⟨_, PSs.nox (pss_one (ps_ret (k_orT K (k_join K pe_str (pe_lc (own := [("name", 1), ("count", 2)]) (g := gTup K 2 (gCons (gName 1) (gCons (gName 2) gNil))) (tt := tYes) rfl nd (k_iTup K (pv 0)) (blkOk_by (own := [("name", 1), ("count", 2)]) (N := N_counts_text) (sc := defScope s_counts_text) (by decide +kernel)) (fun _ _ _ _ _ => (k_gtup K rfl (pgs_cons (pg_name (i := 1) nd rfl (Or.inl rfl)) (pgs_cons (pg_name (i := 2) nd rfl (Or.inl rfl)) pgs_nil)))) (fun _ _ _ _ _ => pts_nil) (fun _ _ _ _ _ => (k_joined (.cons (pe_fmt (pv 1)) (.cons pe_str (.cons (pe_fmt (pv 2)) .nil))))))) (pe_one pe_str)))), ?_⟩
    try dsimp only [cxOf]
    obtain ⟨a, xs, rfl, hs, hx, hl⟩ := bag_inv hd
    tm_at "wp"
    refine w_onT hs ?_
    intro D0 hD
    refine lc_map walk_tup (n := xs.length) (by omega) (fun i y => ∃ p, ps[i]? = some p ∧ y = .str (ptS p)) hD (fun _ s => sqt_same s hs) ?_ ?_ mono_gpair
    · rintro i y H1 H2 hi s ⟨rfl, hy⟩ Qy hq
      obtain ⟨p, b, e1, rfl, hb'⟩ := bag_get hx hy
      obtain ⟨h1, h2, h3⟩ := hb p (List.mem_of_getElem? e1)
      have hpl := (ptS_len h1 h2 h3).2
      have hnl := (isName_len h1).2
      refine w_gtup (sqt_same s hb') rfl ?_
      tm_at "wp"
      refine ⟨rfl, ?_⟩
      tm_at "wp"
      refine w_fmtS (by omega) ?_
      refine w_jsc (by rw [empty_app]; omega) ?_
      rw [empty_app]
      tm_at "wp"
      refine w_jsc (by rw [app_len]; have : Str.length (":" : Str) = 1 := (by decide +kernel); omega) ?_
      tm_at "wp"
      refine w_fmtI h2 h3 ?_
      refine w_jsc (by show (ptS p).length ≤ _; omega) ?_
      tm_at "wp"
      exact hq _ _ (Same.refl _) ⟨p, e1, rfl⟩
    · intro acc H1 s _ hacc hl2 hf
      have e : acc = (ps.map ptS).map V.str := by
        rw [List.map_map]
        exact acc_map (by omega) hf
      rw [e] at hacc
      have hj := parts_len hb
      have hjl := join_len hb
      refine w_join (SqL.of hacc) (by omega) ?_
      refine w_orcS (by omega) (fun h1 => ?_) (fun h0 => ?_)
      · have ne : ps ≠ [] := fun z => by subst z; exact absurd h1 (by decide +kernel)
        have ec : cText ps = Txt.join (" " : Str) (ps.map ptS) := by unfold cText; rw [if_neg ne]
        rw [← ec]
        exact k _ s
      · have ee : ps = [] := Classical.byContradiction fun z => by have := join_ne hb z; omega
        tm_at "wp"
        have ec : cText ps = "-" := by unfold cText; rw [if_pos ee]
        have := k _ s
        rw [ec] at this
        exact this
theorem ok_Summary___init__ {P : Program} {w : World} {K : PySem.W.Frag} {mg : Str → Option Value} {base : Heap} (fr : Fre mg) (cl_Summary : ClsF K mg "Summary" ["capacity", "counts", "__bool__"]) (et_Summary___init___0 : ∀ H : Hp, SqT K H (dflA "Summary" "__init__" 0 K) []) (D : DfdM K "Summary" "__init__" "Summary.__init__" s_Summary___init__ [.ref (dflA "Summary" "__init__" 0 K)])
    (h_check_capacity : Has P w K mg base CX0 4 "check_capacity" s_check_capacity ["thing"] (sp_check_capacity K))
    (h_first_invalid : Has P w K mg base CX0 4 "first_invalid" s_first_invalid ["thing", "most"] (sp_first_invalid K)) : HasM P w K mg base CX0 5 "Summary" "__init__" "Summary.__init__" s_Summary___init__ [.ref (dflA "Summary" "__init__" 0 K)] ["self", "capacity", "counts"] (sp_Summary___init__ K) := by
  refine D.has sc_Summary___init__ (fun vs H Q E h => ?_) (fun cdv A outer s H vs Q E hr hg h => ?_)
  · obtain ⟨x, dx, c, ps, b, rfl, _⟩ := h; rfl
  · obtain ⟨x, dx, c, ps, b, rfl, hx, hd, hv, k⟩ := h
    have nd := sc_Summary___init__.nd
    refine ⟨_, PSs.nox (pss_cons (ps_expr (pe_fn h_check_capacity pb_check_capacity (hr.mono (by decide)) hg rfl pass0 (pa_cons (pv 1) pa_nil)))
      (pss_cons (ps_if (pt_not (pt_val (pe_callB (k_isi K) rfl fr.isinstance_ (by decide +kernel) (pa_cons (pv 2) (pa_cons (pe_bltn (v := .ty "tuple") rfl fr.tuple_ boot_tuple rfl) pa_nil))))) (pss_one ps_never) pss_nil)
      (pss_cons (ps_set (i := 3) nd rfl (Or.inl rfl) (pe_fn h_first_invalid pb_first_invalid (hr.mono (by decide)) hg rfl pass0 (pa_cons (pv 2) (pa_cons (pv 1) pa_nil))))
      (pss_cons (ps_if (pt_cmpR o_notN (pv 3) pe_non (nomark _)) (pss_one ps_never) pss_nil)
      (pss_cons (k_sfld K (pv 0) (pv 1) rfl)
      (pss_one (k_sfld K (pv 0) (pv 2) rfl))))))), ?_⟩
    try dsimp only [cxOf]
    tm_at "wp"
    refine ⟨c, rfl, hv.c1, hv.c8, ?_⟩
    tm_at "wp"
    refine w_isiD hd (isi_tup _) ?_
    refine w_bl ?_
    refine w_nott ?_
    tm_at "wp"
    refine ⟨b, ps.map pairD, c, rfl, hd, hv.ok.sz, fun H1 s1 => ?_⟩
    rw [show optV (firstBad (ps.map pairD) c) = .non by rw [bag_good hv.ok hv.len]; rfl]
    tm_at "wp"
    refine w_setc cl_Summary (by decide) (s1 _ _ hx) (by decide) ?_
    tm_at "wp"
    refine w_setc cl_Summary (by decide) upd_same (show (1 : Nat) < 1000 by decide) ?_
    tm_at "wp"
    refine k _ (fun z o ne e => ?_) upd_same
    rw [upd_ne ne, upd_ne ne]
    exact s1 z o e
theorem ok_Summary___eq__ {P : Program} {w : World} {K : PySem.W.Frag} {mg : Str → Option Value} {base : Heap} (fr : Fre mg) (cl_Summary : ClsF K mg "Summary" ["capacity", "counts", "__bool__"]) (et_Summary___init___0 : ∀ H : Hp, SqT K H (dflA "Summary" "__init__" 0 K) []) (D : DfdM K "Summary" "__eq__" "Summary.__eq__" s_Summary___eq__ []) : HasMA P w K mg base CX0 1 "Summary" "__eq__" "Summary.__eq__" s_Summary___eq__ [] ["self", "other"] (sp_Summary___eq__ K) := by
  refine D.hasA sc_Summary___eq__ (fun vs H Q E h => ?_) (fun cdv A outer s H vs Q E hr h => ?_)
  · obtain ⟨v, w, c, ps, rfl, _⟩ := h; rfl
  · obtain ⟨v, w, c, ps, rfl, ho, hv, hb⟩ := h
    have nd := sc_Summary___eq__.nd
    refine ⟨_, PSs.nox (pss_one (ps_ret (pe_and (pe_callB (k_isi K) rfl fr.isinstance_ (by decide +kernel) (pa_cons (pv 1) (pa_cons (pe_glob (v := .ref (He.ga K "Summary")) rfl cl_Summary.glo rfl) pa_nil))) (pe_and (pe_cmpR op_eq (k_fld K (pv 0) rfl) (k_fld K (pv 1) rfl) (nomark _)) (pe_one (pe_cmpR (k_eqD K (hr.units)) (k_fld K (pv 0) rfl) (k_fld K (pv 1) rfl) (nomark _))))))), ?_⟩
    try dsimp only [cxOf]
    tm_at "wp"
    rcases hb with ⟨d, qs, ho2, hv2, k⟩ | ⟨T, hT, ht, k⟩
    · refine w_isSum cl_Summary ho2 ?_
      tm_at "wp"
      refine w_sumCap cl_Summary ho ?_
      tm_at "wp"
      refine w_sumCap cl_Summary ho2 ?_
      tm_at "wp"
      by_cases z : c = d
      · rw [decide_eq_true z] at k ⊢
        rw [if_pos rfl]
        tm_at "wp"
        refine w_sumCnt cl_Summary ho fun b hbd => ?_
        tm_at "wp"
        refine w_sumCnt cl_Summary ho2 fun b2 hbd2 => ?_
        refine w_eqB hbd hbd2 hv.ok.nam hv2.ok.nam ?_
        tm_at "wp"
        exact k
      · rw [decide_eq_false z] at k ⊢
        rw [if_neg Bool.false_ne_true]
        exact k
    · refine ⟨_, _, _, _, false, rfl, .own _, ht, cl_Summary.kf _ hT, ?_⟩
      tm_at "wp"
      exact k
theorem ok_Summary___str__ {P : Program} {w : World} {K : PySem.W.Frag} {mg : Str → Option Value} {base : Heap} (fr : Fre mg) (cl_Summary : ClsF K mg "Summary" ["capacity", "counts", "__bool__"]) (et_Summary___init___0 : ∀ H : Hp, SqT K H (dflA "Summary" "__init__" 0 K) []) (D : DfdM K "Summary" "__str__" "Summary.__str__" s_Summary___str__ [])
    (h_counts_text : HasA P w K mg base CX0 1 "counts_text" s_counts_text ["counts"] (sp_counts_text K)) : HasM P w K mg base CX0 2 "Summary" "__str__" "Summary.__str__" s_Summary___str__ [] ["self"] (sp_Summary___str__ K) := by
  refine D.has sc_Summary___str__ (fun vs H Q E h => ?_) (fun cdv A outer s H vs Q E hr hg h => ?_)
  · obtain ⟨v, c, ps, rfl, _⟩ := h; rfl
  · obtain ⟨v, c, ps, rfl, ho, hv, hb, k⟩ := h
    have nd := sc_Summary___str__.nd
    refine ⟨_, PSs.nox (pss_one (ps_ret (pe_callTy c_strS rfl fr.str_ (by decide +kernel) (pa_cons (pe_fn h_counts_text.has pb_counts_text (hr.mono (by decide)) hg rfl pass0 (pa_cons (k_fld K (pv 0) rfl) pa_nil)) pa_nil)))), ?_⟩
    try dsimp only [cxOf]
    have hlen := hv.len
    have h8 := hv.c8
    tm_at "wp"
    refine w_sumCnt cl_Summary ho fun b hbd => ?_
    tm_at "wp"
    refine ⟨b, ps, rfl, hbd, hb, by omega, fun H1 s1 => ?_⟩
    tm_at "wp"
    exact k _ s1
theorem ok_Summary___repr__ {P : Program} {w : World} {K : PySem.W.Frag} {mg : Str → Option Value} {base : Heap} (fr : Fre mg) (cl_Summary : ClsF K mg "Summary" ["capacity", "counts", "__bool__"]) (et_Summary___init___0 : ∀ H : Hp, SqT K H (dflA "Summary" "__init__" 0 K) []) (D : DfdM K "Summary" "__repr__" "Summary.__repr__" s_Summary___repr__ [])
    (h_counts_text : HasA P w K mg base CX0 1 "counts_text" s_counts_text ["counts"] (sp_counts_text K)) : HasMA P w K mg base CX0 2 "Summary" "__repr__" "Summary.__repr__" s_Summary___repr__ [] ["self"] (sp_Summary___repr__ K) := by
  refine D.hasA sc_Summary___repr__ (fun vs H Q E h => ?_) (fun cdv A outer s H vs Q E hr h => ?_)
  · obtain ⟨v, c, ps, rfl, _⟩ := h; rfl
  · obtain ⟨v, c, ps, rfl, ho, hv, hb, k⟩ := h
    have nd := sc_Summary___repr__.nd
    refine ⟨_, PSs.nox (pss_one (ps_ret (k_joined (.cons pe_str (.cons (pe_fmt (k_fld K (pv 0) rfl)) (.cons pe_str (.cons (pe_fmt (pe_fnA h_counts_text pb_counts_text (hr.mono (by decide)) rfl pass0 (pa_cons (k_fld K (pv 0) rfl) pa_nil))) (.cons pe_str .nil)))))))), ?_⟩
    try dsimp only [cxOf]
    have hlen := hv.len
    have h8 := hv.c8
    have h1 := hv.c1
    have hi := intS_len (i := c) (by omega) (by omega)
    have hc := cText_len hb
    have l1 : Str.length ("Summary(" : Str) = 8 := by decide +kernel
    have l2 : Str.length (", '" : Str) = 3 := by decide +kernel
    have l3 : Str.length ("')" : Str) = 2 := by decide +kernel
    tm_at "wp"
    refine w_jsc (by rw [empty_app]; omega) ?_
    rw [empty_app]
    tm_at "wp"
    refine w_sumCap cl_Summary ho ?_
    refine w_fmtI (by omega) (by omega) ?_
    refine w_jsc (by rw [app_len]; omega) ?_
    tm_at "wp"
    refine w_jsc (by rw [app_len, app_len]; omega) ?_
    tm_at "wp"
    refine w_sumCnt cl_Summary ho fun b hbd => ?_
    tm_at "wp"
    refine ⟨b, ps, rfl, hbd, hb, by omega, fun H1 s1 => ?_⟩
    refine w_fmtS (by omega) ?_
    refine w_jsc (by rw [app_len, app_len, app_len]; omega) ?_
    tm_at "wp"
    refine w_jsc (by rw [app_len, app_len, app_len, app_len]; omega) ?_
    tm_at "wp"
    exact k _ s1
theorem ok_Summary_arrive {P : Program} {w : World} {K : PySem.W.Frag} {mg : Str → Option Value} {base : Heap} (fr : Fre mg) (cl_Summary : ClsF K mg "Summary" ["capacity", "counts", "__bool__"]) (et_Summary___init___0 : ∀ H : Hp, SqT K H (dflA "Summary" "__init__" 0 K) []) (D : DfdM K "Summary" "arrive" "Summary.arrive" s_Summary_arrive [.int 1])
    (h_check_name : Has P w K mg base CX0 2 "check_name" s_check_name ["thing"] (sp_check_name K))
    (h_is_from : Has P w K mg base CX0 2 "is_from" s_is_from ["thing", "least"] (sp_is_from K))
    (h_Summary___init__ : HasM P w K mg base CX0 5 "Summary" "__init__" "Summary.__init__" s_Summary___init__ [.ref (dflA "Summary" "__init__" 0 K)] ["self", "capacity", "counts"] (sp_Summary___init__ K))
    (h_counts_of_table : Has P w K mg base CX0 1 "counts_of_table" s_counts_of_table ["table"] (sp_counts_of_table K))
    (h_arrived : Has P w K mg base CX0 2 "arrived" s_arrived ["capacity", "table", "name", "times"] (sp_arrived K))
    (h_table_of : Has P w K mg base CX0 1 "table_of" s_table_of ["pairs"] (sp_table_of K)) : HasM P w K mg base CX0 7 "Summary" "arrive" "Summary.arrive" s_Summary_arrive [.int 1] ["self", "name", "times"] (sp_Summary_arrive K) := by
  refine D.has sc_Summary_arrive (fun vs H Q E h => ?_) (fun cdv A outer s H vs Q E hr hg h => ?_)
  · obtain ⟨v, c, ps, n, m, rfl, _⟩ := h; rfl
  · obtain ⟨v, c, ps, n, m, rfl, ho, hv, hn, hm, k⟩ := h
    have nd := sc_Summary_arrive.nd
    refine ⟨_, PSs.nox (pss_cons (ps_expr (pe_fn h_check_name pb_check_name (hr.mono (by decide)) hg rfl pass0 (pa_cons (pv 1) pa_nil)))
      (pss_cons (ps_if (pt_not (pt_val (pe_fn h_is_from pb_is_from (hr.mono (by decide)) hg rfl pass0 (pa_cons (pv 2) (pa_cons pe_int pa_nil))))) (pss_one ps_never) pss_nil)
      (pss_one (ps_ret (pe_mk cl_Summary h_Summary___init__ bj_Summary___init___3 (hr.mono (by decide)) hg rfl pass0 (pa_cons (k_fld K (pv 0) rfl) (pa_cons (pe_fn h_counts_of_table pb_counts_of_table (hr.mono (by decide)) hg rfl pass0 (pa_cons (pe_ix (k_ixT K) (pe_fn h_arrived pb_arrived (hr.mono (by decide)) hg rfl pass0 (pa_cons (k_fld K (pv 0) rfl) (pa_cons (pe_fn h_table_of pb_table_of (hr.mono (by decide)) hg rfl pass0 (pa_cons (k_fld K (pv 0) rfl) pa_nil)) (pa_cons (pv 1) (pa_cons (pv 2) pa_nil))))) pe_int (fun _ _ => rfl)) pa_nil)) pa_nil))))))), ?_⟩
    try dsimp only [cxOf]
    have hlen := hv.len
    have h8 := hv.c8
    tm_at "wp"
    refine ⟨n, rfl, hn, fun H1 s1 => ?_⟩
    tm_at "wp"
    refine ⟨.int m, .int m, 1, rfl, .int m, ?_⟩
    have e1 : fromD (.int m) 1 = true := decide_eq_true hm
    rw [e1]
    refine w_bl ?_
    refine w_nott ?_
    tm_at "wp"
    have ho1 := sum_same s1 ho
    refine w_sumCap cl_Summary ho1 ?_
    tm_at "wp"
    refine w_sumCap cl_Summary ho1 ?_
    tm_at "wp"
    refine w_sumCnt cl_Summary ho1 fun b hb => ?_
    tm_at "wp"
    refine ⟨b, ps, rfl, by first | exact hb | exact .inl hb, by omega, fun a H2 ha s2 hd2 => ?_⟩
    rw [tabOf_self hv.ok.tab.nd] at hd2
    tm_at "wp"
    refine ⟨c, a, ps, n, m, rfl, hd2, hv.arr, by omega, hm, fun v2 p b2 H3 s3 e hs hb0 hb3 => ?_⟩
    subst e
    tm_at "wp"
    refine w_ixT hs (v := .ref b2) rfl ?_
    have okA := arrT_ok (n := n) hv.arr hm
    have okl := okA.len
    tm_at "wp"
    refine ⟨b2, _, rfl, hb3, okA.tab.nd, by omega, fun v' qs H4 s4 hd4 hcan hl hmem => ?_⟩
    tm_at "wp"
    obtain ⟨hsv, hperm⟩ := can_sum okA h8 hcan fun q hq => by
      rcases arrT_keys (hmem q hq) with h | h
      · obtain ⟨z, hz, e⟩ := List.mem_map.mp h
        rw [← e]; exact hv.ok.nam z hz
      · rw [h]; exact hn
    refine w_mkSum (fun _ => rfl) hd4 hsv fun v5 H5 s5 ho5 => ?_
    exact k v5 qs H5 ((((s1.trans s2).trans s3).trans s4).trans s5) ho5 hsv hperm
theorem ok_Summary_merged {P : Program} {w : World} {K : PySem.W.Frag} {mg : Str → Option Value} {base : Heap} (fr : Fre mg) (cl_Summary : ClsF K mg "Summary" ["capacity", "counts", "__bool__"]) (et_Summary___init___0 : ∀ H : Hp, SqT K H (dflA "Summary" "__init__" 0 K) []) (D : DfdM K "Summary" "merged" "Summary.merged" s_Summary_merged [])
    (h_check_summary : Has P w K mg base CX0 2 "check_summary" s_check_summary ["thing"] (sp_check_summary K))
    (h_table_of : Has P w K mg base CX0 1 "table_of" s_table_of ["pairs"] (sp_table_of K))
    (h_Summary___init__ : HasM P w K mg base CX0 5 "Summary" "__init__" "Summary.__init__" s_Summary___init__ [.ref (dflA "Summary" "__init__" 0 K)] ["self", "capacity", "counts"] (sp_Summary___init__ K))
    (h_counts_of_table : Has P w K mg base CX0 1 "counts_of_table" s_counts_of_table ["table"] (sp_counts_of_table K)) : HasM P w K mg base CX0 7 "Summary" "merged" "Summary.merged" s_Summary_merged [] ["self", "other"] (sp_Summary_merged K) := by
  refine D.has sc_Summary_merged (fun vs H Q E h => ?_) (fun cdv A outer s H vs Q E hr hg h => ?_)
  · obtain ⟨v, w, c, ps, qs, rfl, _⟩ := h; rfl
  · obtain ⟨v, w, c, ps, qs, rfl, ho, hv, hwo, hw, k⟩ := h
    have nd := sc_Summary_merged.nd
    refine ⟨_, PSs.nox (pss_cons (ps_expr (pe_fn h_check_summary pb_check_summary (hr.mono (by decide)) hg rfl pass0 (pa_cons (pv 1) pa_nil)))
      (pss_cons (ps_if (pt_cmpR op_ne (k_fld K (pv 1) rfl) (k_fld K (pv 0) rfl) (nomark _)) (pss_one ps_never) pss_nil)
      (pss_cons (ps_set (i := 2) nd rfl (Or.inr rfl) (pe_fn h_table_of pb_table_of (hr.mono (by decide)) hg rfl pass0 (pa_cons (pe_op (k_catT K) (k_fld K (pv 0) rfl) (k_fld K (pv 1) rfl)) pa_nil)))
      (pss_cons (ps_set (i := 3) nd rfl (Or.inl rfl) (pe_callBK (k_sortedRev K) rfl fr.sorted_ (by decide +kernel) (pa_cons (pe_lock (pe_lc (own := [("name", 4)]) (g := gName 4) (tt := tYes) rfl nd (pi_keys (pv 2)) (blkOk_by (own := [("name", 4)]) (N := N_Summary_merged) (sc := defScope s_Summary_merged) (by decide +kernel)) (fun _ _ _ _ _ => (pg_name (i := 4) nd rfl (Or.inl rfl))) (fun _ _ _ _ _ => pts_nil) (fun _ _ _ _ _ => (pe_dget (hu_of hr) (pv 2) (pv 4) (fun _ _ => rfl))))) pa_nil) (pk_cons pe_bl pk_nil)))
      (pss_cons (ps_set (i := 5) nd rfl (Or.inr rfl) (pe_ifExp (pt_cmpR op_gt (pe_callB (k_len K) rfl fr.len_ (by decide +kernel) (pa_cons (pv 3) pa_nil)) (k_fld K (pv 0) rfl) (nomark _)) (pe_ix (k_ixL K) (pv 3) (k_fld K (pv 0) rfl) (fun _ _ => rfl)) pe_int))
      (pss_one (ps_ret (pe_mk cl_Summary h_Summary___init__ bj_Summary___init___3 (hr.mono (by decide)) hg rfl pass0 (pa_cons (k_fld K (pv 0) rfl) (pa_cons (pe_fn h_counts_of_table pb_counts_of_table (hr.mono (by decide)) hg rfl pass0 (pa_cons (pe_lock (pe_dc (own := [("name", 4)]) (g := gName 4) (tt := tYes) rfl nd (pi_keys (pv 2)) (blkOk_by (own := [("name", 4)]) (N := N_Summary_merged) (sc := defScope s_Summary_merged) (by decide +kernel)) (fun _ _ _ _ _ => (pg_name (i := 4) nd rfl (Or.inl rfl))) (fun _ _ _ _ _ => pts_nil) (fun _ _ _ _ _ => (pv 4)) (fun _ _ _ _ _ => (pe_op op_sub (pe_dget (hu_of hr) (pv 2) (pv 4) (fun _ _ => rfl)) (pv 5))))) pa_nil)) pa_nil)))))))))), ?_⟩
    try dsimp only [cxOf]
    have hlen := hv.len
    have h8 := hv.c8
    have hlen2 := hw.len
    have h1 := hv.c1
    have hpos : ∀ p ∈ ps ++ qs, 1 ≤ p.2 := fun p hp => (List.mem_append.mp hp).elim (hv.ok.pos p) (hw.ok.pos p)
    have hT := tab_ok hpos
    have hTl : (tabOf (ps ++ qs)).length ≤ 16 := by have := tabOf_len (ps ++ qs); rw [List.length_append] at this; omega
    tm_at "wp"
    refine ⟨w, c, qs, rfl, hwo, ?_⟩
    tm_at "wp"
    refine w_sumCap cl_Summary hwo ?_
    tm_at "wp"
    refine w_sumCap cl_Summary ho ?_
    tm_at "wp"
    refine w_iten (fun h => absurd rfl h) (fun _ => ?_)
    tm_at "wp"
    refine w_sumCnt cl_Summary ho fun b1 hb1 => ?_
    tm_at "wp"
    refine w_sumCnt cl_Summary hwo fun b2 hb2 => ?_
    tm_at "wp"
    refine w_catD hb1 hb2 (by simp; omega) fun b3 H1 s1 hb3 => ?_
    rw [← List.map_append] at hb3
    tm_at "wp"
    refine ⟨b3, ps ++ qs, rfl, by first | exact hb3 | exact .inl hb3, by rw [List.length_append]; omega, fun a H2 ha s2 hd2 => ?_⟩
    have s02 := s1.trans s2
    generalize eT : tabOf (ps ++ qs) = T at hT hTl hd2
    tm_at "wp"
    refine w_lockE hd2 fun od => ?_
    tm_at "wp"
    refine w_onK upd_same ?_
    intro D hD
    have hDa : D ≠ a := fun e => by rw [e, upd_same] at hD; cases hD
    refine lc_map walk_keys (n := (kvOf T).length) (by rw [kv_len]; omega) (fun i y => ∃ p, T[i]? = some p ∧ y = .int p.2) hD (fun _ s' => s' _ _ upd_same) ?_ ?_ mono_gname
    · rintro i x H3 H4 hi s3 ⟨rfl, kk, vv, e1, rfl⟩ Qy hq
      obtain ⟨p, e2, rfl, rfl⟩ := kv_at e1
      refine w_gname ⟨rfl, ?_⟩
      tm_at "wp"
      refine w_dgetR (.inr ⟨od, s3 _ _ upd_same⟩) (kv_some (List.mem_map.mpr ⟨p, List.mem_of_getElem? e2, rfl⟩)) ?_
      rw [getT_mem hT.nd (List.mem_of_getElem? e2)]
      exact hq _ _ (Same.refl _) ⟨p, e2, rfl⟩
    intro acc H3 s3 _ hacc hal hf
    rw [kv_len] at hal
    have e : acc = (T.map (·.2)).map V.int := by rw [List.map_map]; exact acc_map hal hf
    rw [e] at hacc
    have s23 : Same H2 (upd H3 a (.dK (kvOf T))) := lock_back hd2 s3
    refine ⟨s3 _ _ upd_same, ?_⟩
    have hacc' : (upd H3 a (.dK (kvOf T))) D = some (.lst ((T.map (·.2)).map V.int)) := by rw [upd_ne hDa]; exact hacc
    have ha3 : (upd H3 a (.dK (kvOf T))) a = some (.dK (kvOf T)) := upd_same
    generalize upd H3 a (.dK (kvOf T)) = H4 at s23 hacc' ha3
    tm_at "wp"
    refine w_sortedR (SqL.of hacc') ?_
    intro ns rl hperm hdesc hrl
    have s04 := s02.trans s23
    have ho4 := sum_same s04 ho
    have s45 : Same H4 (upd H4 rl (.lst (ns.map V.int))) := same_new hrl
    have hr5 : (upd H4 rl (.lst (ns.map V.int))) rl = some (.lst (ns.map V.int)) := upd_same
    generalize upd H4 rl (.lst (ns.map V.int)) = H5 at s45 hr5
    have ho5 := sum_same s45 ho4
    have cutR : CutR T c (if c < (ns.length : Int) then ns.getD c.toNat 0 else 0) := ⟨ns, hperm, hdesc, rfl⟩
    obtain ⟨cn, rfl⟩ := Int.eq_ofNat_of_zero_le (show 0 ≤ c by omega)
    refine w_gname ?_
    refine w_nx ?_
    refine w_cut (fun σ H' => H' = H5 ∧ ∃ x, σ = [some v, some w, some (.ref a), some (.ref rl), none, some (.int x)] ∧ x = (if (cn : Int) < (ns.length : Int) then ns.getD (cn : Int).toNat 0 else 0)) ?_ ?_
    · rintro σ H6 ⟨rfl, x, rfl, ex⟩
      rw [← ex] at cutR
      have hx0 := cut_nonneg hT (by omega) cutR
      tm_at "wp"
      refine w_sumCap cl_Summary ho5 ?_
      tm_at "wp"
      refine w_lockE (s45 _ _ ha3) fun od2 => ?_
      tm_at "wp"
      refine w_onK upd_same ?_
      intro D2 hD2
      have hD2a : D2 ≠ a := fun e => by rw [e, upd_same] at hD2; cases hD2
      refine dc_go walk_keys (fun i => subT (T.take i) x) hD2 (fun _ s' => s' _ _ upd_same) rfl (fun i _ => by unfold subT; rw [List.length_map, List.length_take]; omega) ?_ ?_
      · rintro i y H7 H8 hi s7 ⟨rfl, kk, vv, e1, rfl⟩ Qy Qn hq hn2
        obtain ⟨p, e2, rfl, rfl⟩ := kv_at e1
        have hin : p.1 ∈ keys T := List.mem_map.mpr ⟨p, List.mem_of_getElem? e2, rfl⟩
        have hg : getT T p.1 = p.2 := getT_mem hT.nd (List.mem_of_getElem? e2)
        refine w_gname ⟨rfl, ?_⟩
        tm_at "wp"
        refine w_dgetR (.inr ⟨od2, s7 _ _ upd_same⟩) (kv_some hin) ?_
        rw [hg]
        tm_at "wp"
        exact hq _ _ _ (Same.refl _) (subT_take T x i hT.nd e2)
      intro H7 s7 _ e7
      refine ⟨s7 _ _ upd_same, ?_⟩
      have s57 : Same H6 (upd H7 a (.dK (kvOf T))) := lock_back (s45 _ _ ha3) s7
      have e7' : (upd H7 a (.dK (kvOf T))) D2 = some (.dK (kvOf (subT T x))) := by rw [upd_ne hD2a, e7, kv_len, List.take_length]
      generalize upd H7 a (.dK (kvOf T)) = H8 at s57 e7'
      tm_at "wp"
      refine ⟨D2, subT T x, rfl, e7', by rw [show (subT T x).map (·.1) = keys T from subT_keys T x]; exact hT.nd, by unfold subT; rw [List.length_map]; omega, fun v' r H9 s9 hd9 hcan hl9 hm9 => ?_⟩
      have mr : MergeR ((cn : Nat) : Int) ps qs r := ⟨x, by rw [eT]; exact cutR, ⟨hcan.asc, hcan.pos, fun n => by
        rw [hcan.cnt n]
        show posI (getT (subT T x) n) = posI (cntC (ps ++ qs) n - x)
        rw [subT_get hx0 hT.nd, ← eT, getT_tabOf]⟩⟩
      have sv : SumV ((cn : Nat) : Int) r := ⟨hv.c1, hv.c8, hcan.ok fun p hp => by
        obtain ⟨q, hq, e⟩ := List.mem_map.mp (merge_names (by omega) hpos mr p hp).1
        rw [← e]
        exact (List.mem_append.mp hq).elim (hv.ok.nam q) (hw.ok.nam q), by have := merge_len hpos mr; omega⟩
      tm_at "wp"
      refine w_mkSum (fun _ => rfl) hd9 sv fun v5 Ha sa ho5 => ?_
      exact k v5 r Ha ((((s04.trans s45).trans s57).trans s9).trans sa) ho5 sv mr
    · intro hx
      tm_at "wp"
      refine w_lenL (SqL.of hr5) ?_
      tm_at "wp"
      refine w_sumCap cl_Summary ho5 ?_
      tm_at "wp"
      rw [List.length_map]
      refine w_ited (fun h => ?_) (fun h => ?_)
      · tm_at "wp"
        refine w_sumCap cl_Summary ho5 ?_
        tm_at "wp"
        have hc : cn < ns.length := by omega
        refine w_ixL (v := .int (ns.getD cn 0)) (SqL.of hr5) (atI_nat (by simp [List.getD, hc])) ?_
        refine w_gname (hx _ _ ⟨rfl, _, rfl, ?_⟩)
        rw [if_pos h]; rfl
      · refine w_c ?_
        refine w_gname (hx _ _ ⟨rfl, _, rfl, ?_⟩)
        rw [if_neg h]
theorem ok_lowered {P : Program} {w : World} {K : PySem.W.Frag} {mg : Str → Option Value} {base : Heap} (fr : Fre mg) (D : Dfd K mg "lowered" s_lowered) : Has P w K mg base CX0 1 "lowered" s_lowered ["table", "step"] (sp_lowered K) := by
  refine D.has sc_lowered (fun vs H Q E h => ?_) (fun cdv A outer s H vs Q E hr hg h => ?_)
  · obtain ⟨a, t, s, rfl, _⟩ := h; rfl
  · obtain ⟨a, t, s, rfl, ha, hn, hl, k⟩ := h
    have nd := sc_lowered.nd
    refine ⟨_, PSs.nox (pss_one (ps_ret (pe_lock (pe_dc (own := [("name", 2)]) (g := gName 2) rfl nd (pi_keys (pv 0)) (blkOk_by (own := [("name", 2)]) (N := N_lowered) (sc := defScope s_lowered) (by decide +kernel)) (fun _ _ _ _ _ => (pg_name (i := 2) nd rfl (Or.inl rfl))) (fun _ _ _ _ _ => (pts_one (pt_cmpR op_gt (pe_dget (hu_of hr) (pv 0) (pv 2) (fun _ _ => rfl)) (pv 1) (nomark _)))) (fun _ _ _ _ _ => (pv 2)) (fun _ _ _ _ _ => (pe_op op_sub (pe_dget (hu_of hr) (pv 0) (pv 2) (fun _ _ => rfl)) (pv 1))))))), ?_⟩
    try dsimp only [cxOf]
    tm_at "wp"
    refine w_lockE ha fun od => ?_
    tm_at "wp"
    refine w_onK upd_same ?_
    intro D hD
    have hDa : D ≠ a := fun e => by rw [e, upd_same] at hD; cases hD
    refine dc_go walk_keys (fun i => lowT (t.take i) s) hD (fun _ s' => s' _ _ upd_same) rfl (fun i _ => by have := lowT_len (t.take i) s; rw [List.length_take] at this; omega) ?_ ?_
    · rintro i x H1 H2 hi s1 ⟨rfl, kk, vv, e1, rfl⟩ Qy Qn hq hn2
      obtain ⟨p, e2, rfl, rfl⟩ := kv_at e1
      have hin : p.1 ∈ keys t := List.mem_map.mpr ⟨p, List.mem_of_getElem? e2, rfl⟩
      have hg : getT t p.1 = p.2 := getT_mem hn (List.mem_of_getElem? e2)
      have hr : Rd H2 a (.dK (kvOf t)) := .inr ⟨od, s1 _ _ upd_same⟩
      refine w_gname ⟨rfl, ?_⟩
      tm_at "wp"
      refine w_dgetR hr (kv_some hin) ?_
      rw [hg]
      tm_at "wp"
      refine w_ited (fun h => ?_) (fun h => ?_)
      · tm_at "wp"
        refine w_dgetR hr (kv_some hin) ?_
        rw [hg]
        tm_at "wp"
        exact hq _ _ _ (Same.refl _) (lowT_take t s i hn e2 h)
      · tm_at "wp"
        exact hn2 _ (Same.refl _) (lowT_skip t s i e2 h)
    · intro H1 s1 _ e
      refine ⟨s1 _ _ upd_same, k D _ (free_upd hD) (lock_back ha s1) ?_⟩
      rw [upd_ne hDa, e, kv_len, List.take_length]
theorem ok_arrived {P : Program} {w : World} {K : PySem.W.Frag} {mg : Str → Option Value} {base : Heap} (fr : Fre mg) (D : Dfd K mg "arrived" s_arrived)
    (h_lowered : Has P w K mg base CX0 1 "lowered" s_lowered ["table", "step"] (sp_lowered K)) : Has P w K mg base CX0 2 "arrived" s_arrived ["capacity", "table", "name", "times"] (sp_arrived K) := by
  refine D.has sc_arrived (fun vs H Q E h => ?_) (fun cdv A outer s H vs Q E hr hg h => ?_)
  · obtain ⟨c, a, t, n, m, rfl, _⟩ := h; rfl
  · obtain ⟨c, a, t, n, m, rfl, ha, hc, c8, hm, k⟩ := h
    have nd := sc_arrived.nd
    refine ⟨_, PSs.nox (pss_cons (ps_set (i := 4) nd rfl (Or.inl rfl) pe_int)
      (pss_cons (ps_while PassesOwn.never (PW.pt (pw_and (pt_cmpR op_gt (pv 3) pe_int (nomark _)) (pw_and (pt_cmp (pc_dnotin (hu_of hr) (pv 2) (pv 1)) rfl) (pw_and1 (pt_cmpR op_eq (pe_callB c_lenD rfl fr.len_ (by decide +kernel) (pa_cons (pv 1) pa_nil)) (pv 0) (nomark _)))))) (pss_cons (ps_set (i := 5) nd rfl (Or.inl rfl) (pe_callB (c_min2 rfl) rfl fr.min_ (by decide +kernel) (pa_cons (pv 3) (pa_cons (pe_callB (k_min K rfl) rfl fr.min_ (by decide +kernel) (pa_cons (pe_lock (pe_lc (own := [("known", 6)]) (g := gName 6) (tt := tYes) rfl nd (pi_keys (pv 1)) (blkOk_by (own := [("known", 6)]) (N := N_arrived) (sc := defScope s_arrived) (by decide +kernel)) (fun _ _ _ _ _ => (pg_name (i := 6) nd rfl (Or.inl rfl))) (fun _ _ _ _ _ => pts_nil) (fun _ _ _ _ _ => (pe_dget (hu_of hr) (pv 1) (pv 6) (fun _ _ => rfl))))) pa_nil)) pa_nil))))
      (pss_one (ps_asg (pe_tup (pa_cons (pe_fn h_lowered pb_lowered (hr.mono (by decide)) hg rfl pass0 (pa_cons (pv 1) (pa_cons (pv 5) pa_nil))) (pa_cons (pe_op op_sub (pv 3) (pv 5)) (pa_cons (pe_op op_add (pv 4) (pv 5)) pa_nil)))) (k_gtup K rfl (pgs_cons (pg_name (i := 1) nd rfl (Or.inr rfl)) (pgs_cons (pg_name (i := 3) nd rfl (Or.inl rfl)) (pgs_cons (pg_name (i := 4) nd rfl (Or.inl rfl)) pgs_nil))))))))
      (pss_cons (ps_set (i := 7) nd rfl (Or.inl rfl) (pe_callTy c_dictD rfl fr.dict_ (by decide +kernel) (pa_cons (pv 1) pa_nil)))
      (pss_cons (ps_if (pt_cmpR op_gt (pv 3) pe_int (nomark _)) (pss_one (ps_dput (hu_of hr) (pv 7) (pv 2) (pe_op op_add (pe_dget2 (hu_of hr) (pv 7) (pv 2) pe_int ⟨rfl, rfl, rfl, rfl⟩) (pv 3)) rfl)) pss_nil)
      (pss_one (ps_ret (pe_tup (pa_cons (pv 7) (pa_cons (pv 4) pa_nil))))))))), ?_⟩
    try dsimp only [cxOf]
    have hlen : t.length ≤ 100 := by have := hc.len; omega
    tm_at "wp"
    refine w_while3 (fun μ σ H' => ∃ (d : Addr) (t' : Bag) (m' l : Int) (u v : Option V), σ = [some (.int c), some (.ref d), some (.str n), some (.int m'), some (.int l), u, v, none] ∧ Same H H' ∧ H' d = some (.dK (kvOf t')) ∧
        ((μ = 1 ∧ t' = t ∧ m' = m ∧ l = 0) ∨ (μ = 0 ∧ n ∉ keys t ∧ (t.length : Int) = c ∧ l = (if m ≤ minV t then m else minV t) ∧ t' = lowT t l ∧ m' = m - l)))
      (fun σ H' => ∃ (d : Addr) (t' : Bag) (m' l : Int) (u v : Option V), σ = [some (.int c), some (.ref d), some (.str n), some (.int m'), some (.int l), u, v, none] ∧ Same H H' ∧ H' d = some (.dK (kvOf t')) ∧ t'.length ≤ 100 ∧
        ((t' = t ∧ m' = m ∧ l = 0 ∧ (n ∈ keys t ∨ (t.length : Int) ≠ c)) ∨ (n ∉ keys t ∧ (t.length : Int) = c ∧ l = (if m ≤ minV t then m else minV t) ∧ t' = lowT t l ∧ m' = m - l))) 1
      ⟨a, t, m, 0, none, none, rfl, Same.refl _, ha, .inl ⟨rfl, rfl, rfl, rfl⟩⟩ ?_ ?_
    · rintro σ H1 ⟨d, t', m', l, u, v, rfl, s1, hd, hl', hf⟩
      have ef := arr_fin (c := c) (n := n) hc hm hf
      tm_at "wp"
      refine w_dictD (.inl hd) ?_
      intro b hb
      have hb0 : H b = none := free_back s1 hb
      tm_at "wp"
      refine w_ited (fun h => ?_) (fun h => ?_)
      · rw [if_pos h] at ef
        have ef1 : putT t' n (getT t' n + m') = (arrT c t n m).1 := congrArg Prod.fst ef
        have ef2 : l = (arrT c t n m).2 := congrArg Prod.snd ef
        tm_at "wp"
        refine w_isD upd_same ?_
        tm_at "wp"
        refine w_dgetk upd_same ?_
        rw [kv_get]
        tm_at "wp"
        refine w_dputk upd_same (by rw [kv_len]; exact sz_lt (by omega)) ?_
        tm_at "wp"
        rename_i p hp
        refine k (.ref p) p b _ (same_step (same_mut (same_step s1 hb) hb0) hp) rfl (SqT.of (by rw [upd_same, ← ef2])) hb0 ?_
        rw [upd_ne (ne_fresh upd_same hp), upd_same, kv_put, ef1]
      · rw [if_neg h] at ef
        have ef1 : t' = (arrT c t n m).1 := congrArg Prod.fst ef
        have ef2 : l = (arrT c t n m).2 := congrArg Prod.snd ef
        tm_at "wp"
        rename_i p hp
        refine k (.ref p) p b _ (same_step (same_step s1 hb) hp) rfl (SqT.of (by rw [upd_same, ← ef2])) hb0 ?_
        rw [upd_ne (ne_fresh upd_same hp), upd_same, ef1]
    · intro hx μ σ H1 hP
      obtain ⟨d, t', m', l, u, v, rfl, s1, hd, hst⟩ := hP
      tm_at "wp"
      refine w_ited (fun h1 => ?_) (fun h1 => ?_)
      · tm_at "wp"
        refine w_dinc (.inl hd) ?_
        rw [kv_isSome]
        tm_at "wp"
        refine w_iten (fun h2 => ?_) (fun h2 => ?_)
        · tm_at "wp"
          refine w_lenD hd ?_
          tm_at "wp"
          rw [kv_len]
          refine w_ited (fun h3 => ?_) (fun h3 => ?_)
          · rcases hst with ⟨rfl, rfl, rfl, rfl⟩ | ⟨rfl, z1, z2, rfl, rfl, rfl⟩
            · have ne := hc.ne h3
              tm_at "wp"
              refine w_lockE hd fun od => ?_
              tm_at "wp"
              refine w_onK upd_same ?_
              intro D hD
              have hDd : D ≠ d := fun e => by rw [e, upd_same] at hD; cases hD
              refine lc_map walk_keys (n := (kvOf t').length) (by rw [kv_len]; omega) (fun i y => ∃ p, t'[i]? = some p ∧ y = .int p.2) hD (fun _ s' => s' _ _ upd_same) ?_ ?_ mono_gname
              · rintro i x H2 H3 hi s2 ⟨rfl, kk, vv, e1, rfl⟩ Qy hq
                obtain ⟨p, e2, rfl, rfl⟩ := kv_at e1
                refine w_gname ⟨rfl, ?_⟩
                tm_at "wp"
                refine w_dgetR (.inr ⟨od, s2 _ _ upd_same⟩) (kv_some (List.mem_map.mpr ⟨p, List.mem_of_getElem? e2, rfl⟩)) ?_
                rw [getT_mem hc.tab.nd (List.mem_of_getElem? e2)]
                exact hq _ _ (Same.refl _) ⟨p, e2, rfl⟩
              · intro acc H2 s2 _ hacc hal hf
                rw [kv_len] at hal
                have e : acc = (t'.map (·.2)).map V.int := by rw [List.map_map]; exact acc_map hal hf
                rw [e] at hacc
                have s12 : Same H1 (upd H2 d (.dK (kvOf t'))) := lock_back hd s2
                refine ⟨s2 _ _ upd_same, ?_⟩
                tm_at "wp"
                refine w_min (SqL.of (by rw [upd_ne hDd]; exact hacc)) (by simpa using ne) ?_
                tm_at "wp"
                have es : (if minL (t'.map (·.2)) < m' then minL (t'.map (·.2)) else m') = (if m' ≤ minV t' then m' else minV t') := by
                  show (if minV t' < m' then minV t' else m') = _
                  by_cases y : m' ≤ minV t'
                  · rw [if_pos y, if_neg (by omega)]
                  · rw [if_neg y, if_pos (by omega)]
                rw [es]
                refine ⟨d, t', _, rfl, upd_same, hc.tab.nd, by omega, fun b H3 hb s3 hb3 => ?_⟩
                tm_at "wp"
                rename_i p hp
                refine w_gtup (SqT.of upd_same) rfl ?_
                tm_at "wp"
                rw [Int.zero_add]
                refine ⟨0, by omega, b, _, _, _, _, _, rfl, same_step ((s1.trans s12).trans s3) hp, hp_new hb3 hp, .inr ⟨rfl, h2, h3, rfl, rfl, rfl⟩⟩
            · exfalso
              by_cases y : m ≤ minV t
              · rw [if_pos y] at h1; omega
              · rw [if_neg y] at h3
                obtain ⟨p, hp, e⟩ := minV_mem (hc.ne z2)
                have := lowT_less hp (by omega : p.2 ≤ minV t)
                omega
          · refine hx _ _ ⟨d, t', m', l, u, v, rfl, s1, hd, ?_, ?_⟩
            · rcases hst with ⟨rfl, rfl, rfl, rfl⟩ | ⟨rfl, z1, z2, rfl, rfl, rfl⟩
              · omega
              · have := lowT_len t (if m ≤ minV t then m else minV t); omega
            · rcases hst with ⟨rfl, rfl, rfl, rfl⟩ | ⟨rfl, z⟩
              · exact .inl ⟨rfl, rfl, rfl, .inr h3⟩
              · exact .inr z
        · refine hx _ _ ⟨d, t', m', l, u, v, rfl, s1, hd, ?_, ?_⟩
          · rcases hst with ⟨rfl, rfl, rfl, rfl⟩ | ⟨rfl, z1, z2, rfl, rfl, rfl⟩
            · omega
            · have := lowT_len t (if m ≤ minV t then m else minV t); omega
          · rcases hst with ⟨rfl, rfl, rfl, rfl⟩ | ⟨rfl, z⟩
            · exact .inl ⟨rfl, rfl, rfl, .inl h2⟩
            · exact .inr z
      · refine hx _ _ ⟨d, t', m', l, u, v, rfl, s1, hd, ?_, ?_⟩
        · rcases hst with ⟨rfl, rfl, rfl, rfl⟩ | ⟨rfl, z1, z2, rfl, rfl, rfl⟩
          · omega
          · have := lowT_len t (if m ≤ minV t then m else minV t); omega
        · rcases hst with ⟨rfl, rfl, rfl, rfl⟩ | ⟨rfl, z⟩
          · omega
          · exact .inr z
theorem ok_is_summary {P : Program} {w : World} {K : PySem.W.Frag} {mg : Str → Option Value} {base : Heap} (fr : Fre mg) (cl_Summary : ClsF K mg "Summary" ["capacity", "counts", "__bool__"]) (et_Summary___init___0 : ∀ H : Hp, SqT K H (dflA "Summary" "__init__" 0 K) []) (D : Dfd K mg "is_summary" s_is_summary) : Has P w K mg base CX0 1 "is_summary" s_is_summary ["thing"] (sp_is_summary K) := by
  refine D.has sc_is_summary (fun vs H Q E h => ?_) (fun cdv A outer s H vs Q E hr hg h => ?_)
  · obtain ⟨v, b, rfl, _⟩ := h; rfl
  · obtain ⟨v, b, rfl, hb, k⟩ := h
    have nd := sc_is_summary.nd
    refine ⟨_, PSs.nox (pss_one (ps_ret (pe_callB (k_isi K) rfl fr.isinstance_ (by decide +kernel) (pa_cons (pv 0) (pa_cons (pe_glob (v := .ref (He.ga K "Summary")) rfl cl_Summary.glo rfl) pa_nil))))), ?_⟩
    try dsimp only [cxOf]
    tm_at "wp"
    rcases hb with ⟨rfl, c, ps, ho⟩ | ⟨rfl, d, hd⟩
    · exact w_isSum cl_Summary ho k
    · exact w_isiF cl_Summary hd k
theorem ok_check_summary {P : Program} {w : World} {K : PySem.W.Frag} {mg : Str → Option Value} {base : Heap} (fr : Fre mg) (D : Dfd K mg "check_summary" s_check_summary)
    (h_is_summary : Has P w K mg base CX0 1 "is_summary" s_is_summary ["thing"] (sp_is_summary K)) : Has P w K mg base CX0 2 "check_summary" s_check_summary ["thing"] (sp_check_summary K) := by
  refine D.has sc_check_summary (fun vs H Q E h => ?_) (fun cdv A outer s H vs Q E hr hg h => ?_)
  · obtain ⟨v, c, ps, rfl, _⟩ := h; rfl
  · obtain ⟨v, c, ps, rfl, ho, k⟩ := h
    have nd := sc_check_summary.nd
    refine ⟨_, PSs.nox (pss_one (ps_if (pt_not (pt_val (pe_fn h_is_summary pb_is_summary (hr.mono (by decide)) hg rfl pass0 (pa_cons (pv 0) pa_nil)))) (pss_one ps_never) pss_nil)), ?_⟩
    try dsimp only [cxOf]
    tm_at "wp"
    refine ⟨v, true, rfl, .inl ⟨rfl, c, ps, ho⟩, ?_⟩
    refine w_bl ?_
    refine w_nott ?_
    tm_at "wp"
    exact k
theorem ok_is_action {P : Program} {w : World} {K : PySem.W.Frag} {mg : Str → Option Value} {base : Heap} (fr : Fre mg) (gd_ACTION_SIZES : GDct K w mg "ACTION_SIZES" [("arrive", .int 3), ("merge", .int 2), ("insert", .int 4), ("remove", .int 2), ("start", .int 2)]) (D : Dfd K mg "is_action" s_is_action) : Has P w K mg base CX0 1 "is_action" s_is_action ["thing"] (sp_is_action K) := by
  refine D.has sc_is_action (fun vs H Q E h => ?_) (fun cdv A outer s H vs Q E hr hg h => ?_)
  · obtain ⟨v, c, a, rfl, _⟩ := h; rfl
  · obtain ⟨v, c, a, rfl, hd, k⟩ := h
    have nd := sc_is_action.nd
    refine ⟨_, PSs.nox (pss_cons (ps_if (PW.pt (pw_or (pt_not (pt_val (pe_callB (k_isi K) rfl fr.isinstance_ (by decide +kernel) (pa_cons (pv 0) (pa_cons (pe_bltn (v := .ty "tuple") rfl fr.tuple_ boot_tuple rfl) pa_nil))))) (pw_or (pt_cmpR (k_eqTE K (u66 hr)) (pv 0) (pe_tup pa_nil) (nomark _)) (pw_or1 (pt_not (pt_val (pe_callB (k_isi K) rfl fr.isinstance_ (by decide +kernel) (pa_cons (pe_ix (k_ixT K) (pv 0) pe_int (fun _ _ => rfl)) (pa_cons (pe_bltn (v := .ty "str") rfl fr.str_ boot_str rfl) pa_nil))))))))) (pss_one (ps_ret pe_bl)) pss_nil)
      (pss_one (ps_ret (pe_and (pe_cmpR (k_inG K gd_ACTION_SIZES) (pe_ix (k_ixT K) (pv 0) pe_int (fun _ _ => rfl)) (pe_glob (v := .ref (He.ga K "ACTION_SIZES")) rfl gd_ACTION_SIZES.glo rfl) rfl) (pe_one (pe_cmpR op_eq (pe_callB (k_len K) rfl fr.len_ (by decide +kernel) (pa_cons (pv 0) pa_nil)) (pe_ix (k_ixG K gd_ACTION_SIZES) (pe_glob (v := .ref (He.ga K "ACTION_SIZES")) rfl gd_ACTION_SIZES.glo rfl) (pe_ix (k_ixT K) (pv 0) pe_int (fun _ _ => rfl)) (fun _ _ => rfl)) (nomark _))))))), ?_⟩
    try dsimp only [cxOf]
    have est : ∀ a0 : V, L2.start N_is_action [a0] = [some a0] := fun _ => rfl
    simp only [est]
    clear est
    obtain ⟨T, w, rfl, hT, _⟩ := hd
    obtain ⟨y, r, n, ex, hn, hm, hi⟩ : ∃ y r n, actX w a = .str (actW a) :: y :: r ∧ ((r.length + 1 + 1 : Nat) : Int) = n ∧ (actW a, He.Dv.int n) ∈ ([("arrive", He.Dv.int 3), ("merge", He.Dv.int 2), ("insert", He.Dv.int 4), ("remove", He.Dv.int 2), ("start", He.Dv.int 2)] : List (Str × He.Dv)) ∧ (([("arrive", He.Dv.int 3), ("merge", He.Dv.int 2), ("insert", He.Dv.int 4), ("remove", He.Dv.int 2), ("start", He.Dv.int 2)] : List (Str × He.Dv)).any fun q => decide (q.1 = actW a)) = true := by
      cases a with
      | arrive _ _ => exact ⟨_, _, 3, rfl, rfl, .head _, rfl⟩
      | merge _ => exact ⟨_, _, 2, rfl, rfl, .tail _ (.head _), rfl⟩
      | insert _ _ _ => exact ⟨_, _, 4, rfl, rfl, .tail _ (.tail _ (.head _)), rfl⟩
      | remove _ => exact ⟨_, _, 2, rfl, rfl, .tail _ (.tail _ (.tail _ (.head _))), rfl⟩
      | start _ => exact ⟨_, _, 2, rfl, rfl, .tail _ (.tail _ (.tail _ (.tail _ (.head _)))), rfl⟩
    have hq := SqT.of (K := K) hT
    tm_at "vp"
    refine w_isiTup hq rfl ?_
    refine w_bl ?_
    rw [if_neg (by decide)]
    tm_at "vp"
    rename_i E hE
    have sE := same_new hE (u := HO.tup [])
    have hq2 := SqT.of (K := K) (sE _ _ hT)
    refine w_eqTE hq2 (SqT.of upd_same) ?_
    rw [ex]
    rw [ex] at hq2
    refine w_bl ?_
    rw [if_neg (show ¬ ((V.str (actW a) :: y :: r).isEmpty = true) from nofun)]
    tm_at "vp"
    refine w_ixT hq2 (v := .str (actW a)) (at_of' (j := 0) rfl rfl) ?_
    tm_at "vp"
    refine w_isiD (Dp.str _) (isi_str _) ?_
    refine w_bl ?_
    rw [if_neg (show ¬ (!isStrD (.str (actW a))) = true from nofun)]
    tm_at "vp"
    refine w_ixT hq2 (v := .str (actW a)) (at_of' (j := 0) rfl rfl) ?_
    tm_at "vp"
    refine w_inG ?_
    rw [hi]
    tm_at "vp"
    refine w_lenT hq2 ?_
    tm_at "vp"
    refine w_ixT hq2 (v := .str (actW a)) (at_of' (j := 0) rfl rfl) ?_
    tm_at "vp"
    refine w_ixG hm ?_
    refine w_eq rfl ?_
    rw [show decide ((V.int ((List.length (V.str (actW a) :: y :: r) : Nat) : Int)) = He.Dv.v K (.int n)) = true from decide_eq_true (by show V.int _ = V.int n; rw [← hn]; rfl)]
    exact k _ sE
theorem ok_check_actions {P : Program} {w : World} {K : PySem.W.Frag} {mg : Str → Option Value} {base : Heap} (fr : Fre mg) (D : Dfd K mg "check_actions" s_check_actions)
    (h_is_action : Has P w K mg base CX0 1 "is_action" s_is_action ["thing"] (sp_is_action K)) : Has P w K mg base CX0 2 "check_actions" s_check_actions ["actions"] (sp_check_actions K) := by
  refine D.has sc_check_actions (fun vs H Q E h => ?_) (fun cdv A outer s H vs Q E hr hg h => ?_)
  · obtain ⟨T, xs, c, acts, rfl, _⟩ := h; rfl
  · obtain ⟨T, xs, c, acts, rfl, hT, hx, hl, k⟩ := h
    have nd := sc_check_actions.nd
    refine ⟨_, PSs.nox (pss_cons (ps_if (pt_not (pt_val (pe_callB (k_isi K) rfl fr.isinstance_ (by decide +kernel) (pa_cons (pv 0) (pa_cons (pe_bltn (v := .ty "tuple") rfl fr.tuple_ boot_tuple rfl) pa_nil))))) (pss_one ps_never) pss_nil)
      (pss_one (ps_for PassesOwn.never rfl (k_iEnumT K rfl fr.enumerate_ (pa_cons (pv 0) pa_nil)) (k_gtup K rfl (pgs_cons (pg_name (i := 1) nd rfl (Or.inl rfl)) (pgs_cons (pg_name (i := 2) nd rfl (Or.inl rfl)) pgs_nil)))
        (pss_one (ps_if (pt_not (pt_val (pe_fn h_is_action pb_is_action (hr.mono (by decide)) hg rfl pass0 (pa_cons (pv 2) pa_nil)))) (pss_one ps_never) pss_nil))))), ?_⟩
    try dsimp only [cxOf]
    have est : ∀ a0 : V, L2.start N_check_actions [a0] = [some a0, none, none] := fun _ => rfl
    simp only [est]
    clear est
    tm_at "vp"
    refine w_isiTup hT rfl ?_
    tm_at "vp"
    refine w_onE hT ?_
    refine for_go (walk_enumT (xs := xs)) (fun i σ H' => ∃ u w, σ = [some (.ref T), u, w] ∧ Same H H') ⟨none, none, rfl, Same.refl _⟩ (fun i σ H' _ ⟨_, _, _, s⟩ => sqt_same s hT) ?_ ?_
    rotate_left
    · rintro σ Hz ⟨u, w, rfl, sz⟩
      dsimp only
      tm_at "vp"
      exact k _ sz
    rintro i y σ Ha Hb hi ⟨u, w, rfl, sa⟩ ⟨T2, y1, x1, rfl, hT2, rfl, e1, e2⟩
    cases (Option.some.inj e1)
    have s2 : Same H (upd Ha T2 (.tup [.int (i : Nat), x1])) := same_step sa hT2
    refine w_gtup (SqT.of upd_same) rfl ?_
    tm_at "vp"
    obtain ⟨act, ea, hact⟩ := hx.get e2
    refine ⟨x1, c, act, rfl, deedO_c (SameC.of s2) hact, fun H3 s3 => ?_⟩
    tm_at "vp"
    exact ⟨_, _, rfl, s2.trans s3⟩
theorem ok_check_index {P : Program} {w : World} {K : PySem.W.Frag} {mg : Str → Option Value} {base : Heap} (fr : Fre mg) (D : Dfd K mg "check_index" s_check_index)
    (h_is_between : Has P w K mg base CX0 2 "is_between" s_is_between ["thing", "least", "most"] (sp_is_between K)) : Has P w K mg base CX0 3 "check_index" s_check_index ["index", "most"] (sp_check_index K) := by
  refine D.has sc_check_index (fun vs H Q E h => ?_) (fun cdv A outer s H vs Q E hr hg h => ?_)
  · obtain ⟨i, m, rfl, _⟩ := h; rfl
  · obtain ⟨i, m, rfl, hm, k⟩ := h
    have nd := sc_check_index.nd
    refine ⟨_, PSs.nox (pss_one (ps_if (pt_not (pt_val (pe_fn h_is_between pb_is_between (hr.mono (by decide)) hg rfl pass0 (pa_cons (pv 0) (pa_cons pe_int (pa_cons (pv 1) pa_nil)))))) (pss_one ps_never) pss_nil)), ?_⟩
    try dsimp only [cxOf]
    have est : ∀ a0 a1 : V, L2.start N_check_index [a0, a1] = [some a0, some a1] := fun _ _ => rfl
    simp only [est]
    clear est
    tm_at "vp"
    refine ⟨_, .int ((i : Nat) : Int), 0, m, rfl, .int _, ?_⟩
    rw [show betD (.int ((i : Nat) : Int)) 0 m = true by show (decide (0 ≤ ((i : Nat) : Int)) && decide (((i : Nat) : Int) ≤ m)) = true; rw [decide_eq_true (by omega), decide_eq_true hm]; rfl]
    refine w_bl ?_
    rw [if_neg (by decide)]
    tm_at "vp"
    exact k
theorem ok_check_run {P : Program} {w : World} {K : PySem.W.Frag} {mg : Str → Option Value} {base : Heap} (fr : Fre mg) (D : Dfd K mg "check_run" s_check_run)
    (h_check_name : Has P w K mg base CX0 2 "check_name" s_check_name ["thing"] (sp_check_name K))
    (h_is_from : Has P w K mg base CX0 2 "is_from" s_is_from ["thing", "least"] (sp_is_from K)) : Has P w K mg base CX0 3 "check_run" s_check_run ["name", "times"] (sp_check_run K) := by
  refine D.has sc_check_run (fun vs H Q E h => ?_) (fun cdv A outer s H vs Q E hr hg h => ?_)
  · obtain ⟨n, m, rfl, _⟩ := h; rfl
  · obtain ⟨n, m, rfl, hn, hm, k⟩ := h
    have nd := sc_check_run.nd
    refine ⟨_, PSs.nox (pss_cons (ps_expr (pe_fn h_check_name pb_check_name (hr.mono (by decide)) hg rfl pass0 (pa_cons (pv 0) pa_nil)))
      (pss_one (ps_if (pt_not (pt_val (pe_fn h_is_from pb_is_from (hr.mono (by decide)) hg rfl pass0 (pa_cons (pv 1) (pa_cons pe_int pa_nil))))) (pss_one ps_never) pss_nil))), ?_⟩
    try dsimp only [cxOf]
    have est : ∀ a0 a1 : V, L2.start N_check_run [a0, a1] = [some a0, some a1] := fun _ _ => rfl
    simp only [est]
    clear est
    tm_at "vp"
    refine ⟨n, rfl, hn, fun H1 s1 => ?_⟩
    tm_at "vp"
    refine ⟨_, .int m, 1, rfl, .int _, ?_⟩
    rw [show fromD (.int m) 1 = true from decide_eq_true hm]
    refine w_bl ?_
    rw [if_neg (by decide)]
    tm_at "vp"
    exact k _ s1
theorem ok_check_same {P : Program} {w : World} {K : PySem.W.Frag} {mg : Str → Option Value} {base : Heap} (fr : Fre mg) (cl_Summary : ClsF K mg "Summary" ["capacity", "counts", "__bool__"]) (et_Summary___init___0 : ∀ H : Hp, SqT K H (dflA "Summary" "__init__" 0 K) []) (D : Dfd K mg "check_same" s_check_same)
    (h_check_summary : Has P w K mg base CX0 2 "check_summary" s_check_summary ["thing"] (sp_check_summary K)) : Has P w K mg base CX0 3 "check_same" s_check_same ["capacity", "summary"] (sp_check_same K) := by
  refine D.has sc_check_same (fun vs H Q E h => ?_) (fun cdv A outer s H vs Q E hr hg h => ?_)
  · obtain ⟨c, v, ps, rfl, _⟩ := h; rfl
  · obtain ⟨c, v, ps, rfl, ho, k⟩ := h
    have nd := sc_check_same.nd
    refine ⟨_, PSs.nox (pss_cons (ps_expr (pe_fn h_check_summary pb_check_summary (hr.mono (by decide)) hg rfl pass0 (pa_cons (pv 1) pa_nil)))
      (pss_one (ps_if (pt_cmpR op_ne (k_fld K (pv 1) rfl) (pv 0) (nomark _)) (pss_one ps_never) pss_nil))), ?_⟩
    try dsimp only [cxOf]
    have est : ∀ a0 a1 : V, L2.start N_check_same [a0, a1] = [some a0, some a1] := fun _ _ => rfl
    simp only [est]
    clear est
    tm_at "vp"
    refine ⟨v, c, ps, rfl, ho, ?_⟩
    tm_at "vp"
    refine w_sumCap cl_Summary ho ?_
    tm_at "vp"
    simp only [decide_true, decide_false, Bool.not_true, Bool.false_eq_true, if_false]
    tm_at "vp"
    exact k
theorem ok_more_rows {P : Program} {w : World} {K : PySem.W.Frag} {mg : Str → Option Value} {base : Heap} (fr : Fre mg) (D : Dfd K mg "more_rows" s_more_rows)
    (h_check_same : Has P w K mg base CX0 3 "check_same" s_check_same ["capacity", "summary"] (sp_check_same K))
    (h_check_run : Has P w K mg base CX0 3 "check_run" s_check_run ["name", "times"] (sp_check_run K))
    (h_check_index : Has P w K mg base CX0 3 "check_index" s_check_index ["index", "most"] (sp_check_index K)) : Has P w K mg base CX0 4 "more_rows" s_more_rows ["capacity", "rows", "action"] (sp_more_rows K) := by
  refine D.has sc_more_rows (fun vs H Q E h => ?_) (fun cdv A outer s H vs Q E hr hg h => ?_)
  · obtain ⟨c, r, v, rows, a, b, rfl, _⟩ := h; rfl
  · obtain ⟨c, r, v, rows, a, b, rfl, hro, hd, hv, hl, hn1, hn2, k⟩ := h
    have nd := sc_more_rows.nd
    refine ⟨_, PSs.nox (pss_cons (ps_asg (pv 2) (k_gstar K (n := 2) (i := 1) rfl (pgs_cons (pg_name (i := 3) nd rfl (Or.inl rfl)) (pgs_star (pg_name (i := 4) nd rfl (Or.inl rfl)) pgs_nil))))
      (pss_cons (ps_if (pt_cmpR op_eq (pv 3) pe_str (nomark _)) (pss_cons (ps_expr (pe_fn h_check_same pb_check_same (hr.mono (by decide)) hg rfl pass0 (pa_cons (pv 0) (pa_cons (pe_ix (k_ixL K) (pv 4) pe_int (fun _ _ => rfl)) pa_nil))))
      (pss_one (ps_ret (pe_op (k_catT K) (pv 1) (pe_tup (pa_cons (pe_ix (k_ixL K) (pv 4) pe_int (fun _ _ => rfl)) pa_nil)))))) pss_nil)
      (pss_cons (ps_if (pt_cmpR op_eq (pv 3) pe_str (nomark _)) (pss_cons (ps_expr (pe_fn h_check_run pb_check_run (hr.mono (by decide)) hg rfl pass0 (pa_cons (pe_ix (k_ixL K) (pv 4) pe_int (fun _ _ => rfl)) (pa_cons (pe_ix (k_ixL K) (pv 4) pe_int (fun _ _ => rfl)) pa_nil))))
      (pss_one (ps_ret (pe_op (k_catT K) (pv 1) (pe_tup (pa_cons (pe_tup (pa_cons (pe_ix (k_ixL K) (pv 4) pe_int (fun _ _ => rfl)) (pa_cons (pe_ix (k_ixL K) (pv 4) pe_int (fun _ _ => rfl)) pa_nil))) pa_nil)))))) pss_nil)
      (pss_cons (ps_asg (pv 4) (k_gunl K rfl (pgs_cons (pg_name (i := 5) nd rfl (Or.inl rfl)) (pgs_cons (pg_name (i := 6) nd rfl (Or.inl rfl)) (pgs_cons (pg_name (i := 7) nd rfl (Or.inl rfl)) pgs_nil)))))
      (pss_cons (ps_expr (pe_fn h_check_index pb_check_index (hr.mono (by decide)) hg rfl pass0 (pa_cons (pv 5) (pa_cons (pe_callB (k_len K) rfl fr.len_ (by decide +kernel) (pa_cons (pv 1) pa_nil)) pa_nil))))
      (pss_cons (ps_expr (pe_fn h_check_run pb_check_run (hr.mono (by decide)) hg rfl pass0 (pa_cons (pv 6) (pa_cons (pv 7) pa_nil))))
      (pss_one (ps_ret (pe_op (k_catT K) (pe_op (k_catT K) (pe_slice (k_slT K) (pv 1) po_none (po_some (pv 5))) (pe_tup (pa_cons (pe_tup (pa_cons (pv 6) (pa_cons (pv 7) pa_nil))) pa_nil))) (pe_slice (k_slT K) (pv 1) (po_some (pv 5)) po_none)))))))))), ?_⟩
    try dsimp only [cxOf]
    have est : ∀ a0 a1 a2 : V, L2.start N_more_rows [a0, a1, a2] = [some a0, some a1, some a2, none, none, none, none, none] := fun _ _ _ => rfl
    simp only [est]
    clear est
    obtain ⟨R, xs, rfl, hR, hxs⟩ := hro
    obtain ⟨T, w, rfl, hT, hw⟩ := hd
    have hlen := hxs.len
    have hq := SqT.of (K := K) hT
    cases a with
    | remove i => exact absurd rfl (hn1 i)
    | start qs => exact absurd rfl (hn2 qs)
    | merge qs =>
      tm_at "vp"
      refine w_gstar (xs := [.str "merge", w]) hq (Nat.le_of_ble_eq_true rfl) (Nat.le_of_ble_eq_true rfl) fun p hp => ?_
      show gCons _ _ [V.str "merge", V.ref p] _ (upd H p (HO.lst [w])) _
      have sp := same_new hp (u := HO.lst [w])
      have hp2 := @upd_same H p (HO.lst [w])
      generalize upd H p (HO.lst [w]) = H1 at *
      tm_at "vp"
      rw [if_pos (show decide (("merge" : Str) = ("merge" : Str)) = true by decide +kernel)]
      tm_at "vp"
      refine w_ixL (SqL.of hp2) (v := w) (at_of' (j := 0) rfl rfl) ?_
      tm_at "vp"
      refine ⟨c, w, qs, rfl, sum_same sp hw, ?_⟩
      tm_at "vp"
      refine w_ixL (SqL.of hp2) (v := w) (at_of' (j := 0) rfl rfl) ?_
      tm_at "vp"
      rename_i e he
      have se := sp.trans (same_new he (u := HO.tup [w]))
      refine w_catT (sqt_same se hR) (SqT.of upd_same) (by rw [hlen]; show rows.length + 1 ≤ 100000; omega) fun cv H' s' hc => ?_
      exact k _ _ (se.trans s') ⟨cv, xs ++ [w], rfl, hc, (hxs.imp fun _ _ => rowO_c (SameC.of (se.trans s'))).app (.cons (sum_same (se.trans s') hw) .nil)⟩
    | arrive n m =>
      obtain ⟨hn, hm, _⟩ := hv
      tm_at "vp"
      refine w_gstar (xs := [.str "arrive", .str n, .int m]) hq (Nat.le_of_ble_eq_true rfl) (Nat.le_of_ble_eq_true rfl) fun p hp => ?_
      show gCons _ _ [V.str "arrive", V.ref p] _ (upd H p (HO.lst [.str n, .int m])) _
      have sp := same_new hp (u := HO.lst [.str n, .int m])
      have hp2 := @upd_same H p (HO.lst [.str n, .int m])
      generalize upd H p (HO.lst [.str n, .int m]) = H1 at *
      tm_at "vp"
      rw [if_neg (show ¬ decide (("arrive" : Str) = ("merge" : Str)) = true by decide +kernel)]
      tm_at "vp"
      rw [if_pos (show decide (("arrive" : Str) = ("arrive" : Str)) = true by decide +kernel)]
      tm_at "vp"
      refine w_ixL (SqL.of hp2) (v := .str n) (at_of' (j := 0) rfl rfl) ?_
      tm_at "vp"
      refine w_ixL (SqL.of hp2) (v := .int m) (at_of' (j := 1) rfl rfl) ?_
      tm_at "vp"
      refine ⟨n, m, rfl, hn, hm, fun H2 s2 => ?_⟩
      have hp3 := s2 _ _ hp2
      tm_at "vp"
      refine w_ixL (SqL.of hp3) (v := .str n) (at_of' (j := 0) rfl rfl) ?_
      tm_at "vp"
      refine w_ixL (SqL.of hp3) (v := .int m) (at_of' (j := 1) rfl rfl) ?_
      tm_at "vp"
      rename_i e he e2 he2
      have se := (sp.trans s2).trans ((same_new he (u := HO.tup [.str n, .int m])).trans (same_new he2 (u := HO.tup [.ref e])))
      have hse := hp_new (upd_same (H := H2) (a := e) (o := HO.tup [V.str n, .int m])) he2 (u := HO.tup [.ref e])
      refine w_catT (sqt_same se hR) (SqT.of upd_same) (by rw [hlen]; show rows.length + 1 ≤ 100000; omega) fun cv H' s' hc => ?_
      exact k _ _ (se.trans s') ⟨cv, xs ++ [.ref e], rfl, hc, (hxs.imp fun _ _ => rowO_c (SameC.of (se.trans s'))).app (.cons (show RowO K H' c (.ref e) (.run n m) from pair_mk (sqt_same s' (SqT.of hse))) .nil)⟩
    | insert i n m =>
      obtain ⟨hi, hn, hm, _⟩ := hv
      tm_at "vp"
      refine w_gstar (xs := [.str "insert", .int (i : Nat), .str n, .int m]) hq (Nat.le_of_ble_eq_true rfl) (Nat.le_of_ble_eq_true rfl) fun p hp => ?_
      show gCons _ _ [V.str "insert", V.ref p] _ (upd H p (HO.lst [.int (i : Nat), .str n, .int m])) _
      have sp := same_new hp (u := HO.lst [.int (i : Nat), .str n, .int m])
      have hp2 := @upd_same H p (HO.lst [.int (i : Nat), .str n, .int m])
      generalize upd H p (HO.lst [.int (i : Nat), .str n, .int m]) = H1 at *
      tm_at "vp"
      rw [if_neg (show ¬ decide (("insert" : Str) = ("merge" : Str)) = true by decide +kernel)]
      tm_at "vp"
      rw [if_neg (show ¬ decide (("insert" : Str) = ("arrive" : Str)) = true by decide +kernel)]
      tm_at "vp"
      refine w_gunl (xs := [.int (i : Nat), .str n, .int m]) (SqL.of hp2) rfl ?_
      tm_at "vp"
      refine w_lenT (sqt_same sp hR) ?_
      rw [hlen]
      refine ⟨i, rows.length, rfl, by omega, ?_⟩
      tm_at "vp"
      refine ⟨n, m, rfl, hn, hm, fun H2 s2 => ?_⟩
      have s02 := sp.trans s2
      tm_at "vp"
      refine w_slG (sqt_same s02 hR) fun A H3 s3 hA => ?_
      rw [cutL_hi] at hA
      tm_at "vp"
      rename_i e he e2 he2
      have se := s3.trans ((same_new he (u := HO.tup [.str n, .int m])).trans (same_new he2 (u := HO.tup [.ref e])))
      have hA2 := sqt_same ((same_new he (u := HO.tup [.str n, .int m])).trans (same_new he2 (u := HO.tup [.ref e]))) hA
      have hse := hp_new (upd_same (H := H3) (a := e) (o := HO.tup [V.str n, .int m])) he2 (u := HO.tup [.ref e])
      have hs2 := @upd_same (upd H3 e (HO.tup [V.str n, .int m])) e2 (HO.tup [.ref e])
      generalize upd (upd H3 e (HO.tup [V.str n, .int m])) e2 (HO.tup [.ref e]) = H4 at *
      refine w_catT hA2 (SqT.of hs2) (by rw [List.length_take, hlen]; show min i rows.length + 1 ≤ 100000; omega) fun B H5 s5 hB => ?_
      tm_at "vp"
      have s05 := s02.trans (se.trans s5)
      refine w_slG (sqt_same s05 hR) fun C H6 s6 hC => ?_
      rw [cutL_lo] at hC
      refine w_catT (sqt_same s6 hB) hC (by rw [List.length_append, List.length_take, List.length_drop, hlen]; show min i rows.length + 1 + (rows.length - i) ≤ 100000; omega) fun D H7 s7 hD => ?_
      have s07 := s05.trans (s6.trans s7)
      have hx7 := hxs.imp fun _ _ => rowO_c (K := K) (c := c) (SameC.of s07)
      exact k _ _ s07 ⟨D, _, rfl, hD, ((hx7.take i).app (.cons (show RowO K H7 c (.ref e) (.run n m) from pair_mk (sqt_same (s5.trans (s6.trans s7)) (SqT.of hse))) .nil)).app (hx7.drop i)⟩
theorem ok_state_after {P : Program} {w : World} {K : PySem.W.Frag} {mg : Str → Option Value} {base : Heap} (fr : Fre mg) (c_MAX_ACTIONS : ∃ t, mg "MAX_ACTIONS" = some (.int 100 t)) (D : Dfd K mg "state_after" s_state_after)
    (h_check_same : Has P w K mg base CX0 3 "check_same" s_check_same ["capacity", "summary"] (sp_check_same K))
    (h_check_index : Has P w K mg base CX0 3 "check_index" s_check_index ["index", "most"] (sp_check_index K))
    (h_more_rows : Has P w K mg base CX0 4 "more_rows" s_more_rows ["capacity", "rows", "action"] (sp_more_rows K)) : Has P w K mg base CX0 5 "state_after" s_state_after ["capacity", "state", "action"] (sp_state_after K) := by
  refine D.has sc_state_after (fun vs H Q E h => ?_) (fun cdv A outer s H vs Q E hr hg h => ?_)
  · obtain ⟨c, sv, v, s, a, rfl, _⟩ := h; rfl
  · obtain ⟨c, sv, v, s, a, rfl, hst, hd, hv, hl, k⟩ := h
    obtain ⟨_, g_MAX_ACTIONS⟩ := c_MAX_ACTIONS
    have nd := sc_state_after.nd
    refine ⟨_, PSs.nox (pss_cons (ps_asg (pv 1) (k_gtup K rfl (pgs_cons (pg_name (i := 3) nd rfl (Or.inl rfl)) (pgs_cons (pg_name (i := 4) nd rfl (Or.inl rfl)) pgs_nil))))
      (pss_cons (ps_if (pt_cmpR op_eq (pe_ix (k_ixT K) (pv 2) pe_int (fun _ _ => rfl)) pe_str (nomark _)) (pss_cons (ps_expr (pe_fn h_check_same pb_check_same (hr.mono (by decide)) hg rfl pass0 (pa_cons (pv 0) (pa_cons (pe_ix (k_ixT K) (pv 2) pe_int (fun _ _ => rfl)) pa_nil))))
      (pss_one (ps_ret (pe_tup (pa_cons (pe_ix (k_ixT K) (pv 2) pe_int (fun _ _ => rfl)) (pa_cons (pv 4) pa_nil)))))) pss_nil)
      (pss_cons (ps_if (pt_cmpR op_eq (pe_ix (k_ixT K) (pv 2) pe_int (fun _ _ => rfl)) pe_str (nomark _)) (pss_cons (ps_expr (pe_fn h_check_index pb_check_index (hr.mono (by decide)) hg rfl pass0 (pa_cons (pe_ix (k_ixT K) (pv 2) pe_int (fun _ _ => rfl)) (pa_cons (pe_op op_sub (pe_callB (k_len K) rfl fr.len_ (by decide +kernel) (pa_cons (pv 4) pa_nil)) pe_int) pa_nil))))
      (pss_one (ps_ret (pe_tup (pa_cons (pv 3) (pa_cons (pe_op (k_catT K) (pe_slice (k_slT K) (pv 4) po_none (po_some (pe_ix (k_ixT K) (pv 2) pe_int (fun _ _ => rfl)))) (pe_slice (k_slT K) (pv 4) (po_some (pe_op op_add (pe_ix (k_ixT K) (pv 2) pe_int (fun _ _ => rfl)) pe_int)) po_none)) pa_nil)))))) pss_nil)
      (pss_cons (ps_set (i := 4) nd rfl (Or.inl rfl) (pe_fn h_more_rows pb_more_rows (hr.mono (by decide)) hg rfl pass0 (pa_cons (pv 0) (pa_cons (pv 4) (pa_cons (pv 2) pa_nil)))))
      (pss_cons (ps_if (pt_cmpR op_gt (pe_callB (k_len K) rfl fr.len_ (by decide +kernel) (pa_cons (pv 4) pa_nil)) (pe_glob (v := .int 100) rfl g_MAX_ACTIONS ⟨_, rfl⟩) (nomark _)) (pss_one ps_never) pss_nil)
      (pss_one (ps_ret (pe_tup (pa_cons (pv 3) (pa_cons (pv 4) pa_nil)))))))))), ?_⟩
    try dsimp only [cxOf]
    have est : ∀ a0 a1 a2 : V, L2.start N_state_after [a0, a1, a2] = [some a0, some a1, some a2, none, none] := fun _ _ _ => rfl
    simp only [est]
    clear est
    obtain ⟨S, B, R, rfl, hS, hB, hRo⟩ := hst
    have hRo' := hRo
    obtain ⟨R0, xs, rfl, hR, hxs⟩ := hRo'
    have hlen := hxs.len
    have hd' := hd
    obtain ⟨T, w, rfl, hT, hw⟩ := hd
    have hq := SqT.of (K := K) hT
    tm_at "vp"
    refine w_gtup hS rfl ?_
    tm_at "vp"
    have hk : (∃ qs, a = .start qs) ∨ (∃ i, a = .remove i) ∨ (actW a ≠ "start" ∧ actW a ≠ "remove" ∧ (∀ i, a ≠ .remove i) ∧ ∀ qs, a ≠ .start qs) := by
      cases a with
      | start qs => exact .inl ⟨_, rfl⟩
      | remove i => exact .inr (.inl ⟨_, rfl⟩)
      | arrive _ _ => exact .inr (.inr ⟨(show ¬ ("arrive" : Str) = "start" by decide +kernel), (show ¬ ("arrive" : Str) = "remove" by decide +kernel), nofun, nofun⟩)
      | merge _ => exact .inr (.inr ⟨(show ¬ ("merge" : Str) = "start" by decide +kernel), (show ¬ ("merge" : Str) = "remove" by decide +kernel), nofun, nofun⟩)
      | insert _ _ _ => exact .inr (.inr ⟨(show ¬ ("insert" : Str) = "start" by decide +kernel), (show ¬ ("insert" : Str) = "remove" by decide +kernel), nofun, nofun⟩)
    have h0 : atI (actX w a) 0 = some (.str (actW a)) := at_of' (j := 0) rfl (by cases a <;> rfl)
    refine w_ixT hq h0 ?_
    tm_at "vp"
    rcases hk with ⟨qs, rfl⟩ | ⟨i, rfl⟩ | ⟨n1, n2, n3, n4⟩
    · rw [if_pos (show decide ((actW (.start qs)) = ("start" : Str)) = true by show decide (("start" : Str) = ("start" : Str)) = true; decide +kernel)]
      tm_at "vp"
      refine w_ixT hq (v := w) (at_of' (j := 1) rfl rfl) ?_
      tm_at "vp"
      refine ⟨c, w, qs, rfl, hw, ?_⟩
      tm_at "vp"
      refine w_ixT hq (v := w) (at_of' (j := 1) rfl rfl) ?_
      tm_at "vp"
      rename_i e he
      have se := same_new he (u := HO.tup [w, .ref R0])
      exact k _ _ se ⟨e, w, .ref R0, rfl, SqT.of upd_same, sum_same se hw, rowsO_c (SameC.of se) hRo⟩
    · have hi : i < s.2.length := hv
      rw [if_neg (show ¬ decide ((actW (.remove i)) = ("start" : Str)) = true by show ¬ decide (("remove" : Str) = ("start" : Str)) = true; decide +kernel)]
      tm_at "vp"
      refine w_ixT hq h0 ?_
      tm_at "vp"
      rw [if_pos (show decide ((actW (.remove i)) = ("remove" : Str)) = true by show decide (("remove" : Str) = ("remove" : Str)) = true; decide +kernel)]
      tm_at "vp"
      refine w_ixT hq (v := .int (i : Nat)) (at_of' (j := 1) rfl rfl) ?_
      tm_at "vp"
      refine w_lenT hR ?_
      tm_at "vp"
      rw [hlen]
      refine ⟨i, _, rfl, by omega, ?_⟩
      tm_at "vp"
      refine w_ixT hq (v := .int (i : Nat)) (at_of' (j := 1) rfl rfl) ?_
      tm_at "vp"
      refine w_slG hR fun A H1 s1 hA => ?_
      rw [cutL_hi] at hA
      tm_at "vp"
      refine w_ixT (sqt_same s1 hq) (v := .int (i : Nat)) (at_of' (j := 1) rfl rfl) ?_
      tm_at "vp"
      rw [show ((i : Nat) : Int) + 1 = ((i + 1 : Nat) : Int) by omega]
      refine w_slG (sqt_same s1 hR) fun B2 H2 s2 hB2 => ?_
      rw [cutL_lo] at hB2
      refine w_catT (sqt_same s2 hA) hB2 (by rw [List.length_take, List.length_drop, hlen]; show min i s.2.length + (s.2.length - (i + 1)) ≤ 100000; omega) fun D H3 s3 hD => ?_
      tm_at "vp"
      rename_i e he
      have se := s1.trans (s2.trans (s3.trans (same_new he (u := HO.tup [B, .ref D]))))
      have hx7 := hxs.imp fun _ _ => rowO_c (K := K) (c := c) (SameC.of se)
      exact k _ _ se ⟨e, B, .ref D, rfl, SqT.of upd_same, sum_same se hB, ⟨D, _, rfl, sqt_same (same_new he) hD, (hx7.take i).app (hx7.drop (i + 1))⟩⟩
    · rw [if_neg (show ¬ decide (actW a = ("start" : Str)) = true from fun z => n1 (of_decide_eq_true z))]
      tm_at "vp"
      refine w_ixT hq h0 ?_
      tm_at "vp"
      rw [if_neg (show ¬ decide (actW a = ("remove" : Str)) = true from fun z => n2 (of_decide_eq_true z))]
      tm_at "vp"
      refine ⟨c, .ref R0, .ref T, s.2, a, s.1, rfl, hRo, hd', hv, by omega, n3, n4, fun v' H' s' hr' => ?_⟩
      obtain ⟨R2, ys, rfl, hR2, hys⟩ := hr'
      have hl2 := stepA_len s a
      have hl3 : ys.length = (stepA s a).2.length := hys.len
      tm_at "vp"
      refine w_lenT hR2 ?_
      tm_at "vp"
      refine w_ited (fun h => absurd h (by omega)) (fun h => ?_)
      tm_at "vp"
      rename_i e he
      have se := s'.trans (same_new he (u := HO.tup [B, .ref R2]))
      have e1 : (stepA s a).1 = s.1 := by cases a <;> first | rfl | exact absurd rfl (n4 _)
      have e2 : (stepA (s.1, s.2) a).2 = (stepA s a).2 := rfl
      exact k _ _ se ⟨e, B, .ref R2, rfl, SqT.of upd_same, by rw [e1]; exact sum_same se hB, rowsO_c (SameC.of (same_new he)) ⟨R2, ys, rfl, hR2, hys⟩⟩
theorem ok_current_of {P : Program} {w : World} {K : PySem.W.Frag} {mg : Str → Option Value} {base : Heap} (fr : Fre mg) (cl_Summary : ClsF K mg "Summary" ["capacity", "counts", "__bool__"]) (et_Summary___init___0 : ∀ H : Hp, SqT K H (dflA "Summary" "__init__" 0 K) []) (D : Dfd K mg "current_of" s_current_of)
    (h_is_summary : Has P w K mg base CX0 1 "is_summary" s_is_summary ["thing"] (sp_is_summary K))
    (h_Summary_merged : HasM P w K mg base CX0 7 "Summary" "merged" "Summary.merged" s_Summary_merged [] ["self", "other"] (sp_Summary_merged K))
    (h_Summary_arrive : HasM P w K mg base CX0 7 "Summary" "arrive" "Summary.arrive" s_Summary_arrive [.int 1] ["self", "name", "times"] (sp_Summary_arrive K)) : Has P w K mg base CX0 8 "current_of" s_current_of ["begin", "rows"] (sp_current_of K) := by
  refine D.has sc_current_of (fun vs H Q E h => ?_) (fun cdv A outer s H vs Q E hr hg h => ?_)
  · obtain ⟨c, b, r, s, rfl, _⟩ := h; rfl
  · obtain ⟨c, b, r, s, rfl, hb, hro, hs, hl, k⟩ := h
    have nd := sc_current_of.nd
    refine ⟨_, PSs.nox (pss_cons (ps_for PassesOwn.never rfl (k_iTup K (pv 1)) (pg_name (i := 2) nd rfl (Or.inl rfl))
        (pss_one (ps_set (i := 0) nd rfl (Or.inl rfl) (pe_ifExp (pt_val (pe_fn h_is_summary pb_is_summary (hr.mono (by decide)) hg rfl pass0 (pa_cons (pv 2) pa_nil))) (pe_mt cl_Summary h_Summary_merged bj_Summary_merged_2 (hr.mono (by decide)) hg pass0 (pv 0) (pa_cons (pv 2) pa_nil)) (pe_mt cl_Summary h_Summary_arrive bj_Summary_arrive_3 (hr.mono (by decide)) hg pass0 (pv 0) (pa_cons (pe_ix (k_ixT K) (pv 2) pe_int (fun _ _ => rfl)) (pa_cons (pe_ix (k_ixT K) (pv 2) pe_int (fun _ _ => rfl)) pa_nil)))))))
      (pss_one (ps_ret (pv 0)))), ?_⟩
    try dsimp only [cxOf]
    have est : ∀ a0 a1 : V, L2.start N_current_of [a0, a1] = [some a0, some a1, none] := fun _ _ => rfl
    simp only [est]
    clear est
    obtain ⟨T, xs, rfl, hT, hxs⟩ := hro
    obtain ⟨hv, hbn, hrv⟩ := hs
    have hlen := hxs.len
    tm_at "vp"
    refine w_onT hT ?_
    refine for_go (walk_tup (xs := xs)) (fun i σ H' => ∃ (u2 : Option V) (w : V), σ = [some w, some (.ref T), u2] ∧ Same H H' ∧ SumO K H' w c (nowT c s.1 (s.2.take i)) ∧ SumV c (nowT c s.1 (s.2.take i)) ∧ sumC (nowT c s.1 (s.2.take i)) ≤ 10 ^ 32 + (i : Int) * 10 ^ 32) ⟨_, b, rfl, Same.refl _, hb, hv, by show sumC s.1 ≤ _; omega⟩ (fun i σ H' _ ⟨_, _, _, s1, _⟩ => sqt_same s1 hT) ?_ ?_
    rotate_left
    · rintro σ Hz ⟨u2, w, rfl, sz, h1, h2, h3⟩
      rw [hlen, List.take_length] at h1 h2 h3
      dsimp only
      tm_at "vp"
      exact k _ _ sz h1 h2 (by
        have : (s.2.length : Int) * 10 ^ 32 ≤ 100 * 10 ^ 32 := Int.mul_le_mul_of_nonneg_right (by omega) (by decide)
        have e : (10 : Int) ^ 32 + 100 * 10 ^ 32 ≤ 10 ^ 36 := by decide
        omega)
    rintro i y σ Ha Hb hi ⟨u2, w, rfl, sa, h1, h2, h3⟩ ⟨rfl, hy⟩
    obtain ⟨row, er, hrow⟩ := hxs.get hy
    have hrV := hrv row (List.mem_of_getElem? er)
    have hrow := rowO_c (SameC.of sa) hrow
    have hi8 := h2.c8
    refine w_gname ?_
    simp only [List.set_cons_zero, List.set_cons_succ]
    have fin : ∀ (w' : V) (q : Bag) (H' : Hp), Same Hb H' → SumO K H' w' c q → StepR c (nowT c s.1 (s.2.take i)) row q → ∃ (u2 : Option V) (w : V), [some w', some (.ref T), some y] = [some w, some (.ref T), u2] ∧ Same H H' ∧ SumO K H' w c (nowT c s.1 (s.2.take (i + 1))) ∧ SumV c (nowT c s.1 (s.2.take (i + 1))) ∧ sumC (nowT c s.1 (s.2.take (i + 1))) ≤ 10 ^ 32 + ((i + 1 : Nat) : Int) * 10 ^ 32 := fun w' q H' s' ho hst => by
      obtain ⟨e1, e2, e3⟩ := step_all (i := i) hrV h2 h3 hst
      rw [nowT_take er, e1]
      exact ⟨_, w', rfl, sa.trans s', ho, e2, e3⟩
    generalize nowT c s.1 (s.2.take i) = p at *
    cases row with
    | run n m =>
      obtain ⟨P, rfl, hP⟩ := pair_inv hrow
      tm_at "vp"
      refine ⟨.ref P, false, rfl, .inr ⟨rfl, _, hrow⟩, ?_⟩
      tm_at "vp"
      refine w_sumMt h1 (by decide) ?_
      tm_at "vp"
      refine w_ixT hP (v := .str n) rfl ?_
      tm_at "vp"
      refine w_ixT hP (v := .int m) rfl ?_
      tm_at "vp"
      refine ⟨w, c, p, n, m, rfl, h1, h2, hrV.1, hrV.2.1, fun v' ps' H' s' ho hv' hp => ?_⟩
      tm_at "vp"
      exact fin v' ps' H' s' ho ⟨hv', hp⟩
    | sum qs =>
      tm_at "vp"
      refine ⟨y, true, rfl, .inl ⟨rfl, c, qs, hrow⟩, ?_⟩
      tm_at "vp"
      refine w_sumMt h1 (by decide) ?_
      tm_at "vp"
      refine ⟨w, y, c, p, qs, rfl, h1, h2, hrow, hrV.1, fun v' r H' s' ho hv' hm => ?_⟩
      tm_at "vp"
      exact fin v' r H' s' ho ⟨hv', hm⟩
theorem ok_Collector___init__ {P : Program} {w : World} {K : PySem.W.Frag} {mg : Str → Option Value} {base : Heap} (fr : Fre mg) (cl_Collector : ClsF K mg "Collector" ["capacity", "begin", "rows", "past", "busy", "attempts", "__bool__"]) (cl_Summary : ClsF K mg "Summary" ["capacity", "counts", "__bool__"]) (et_Summary___init___0 : ∀ H : Hp, SqT K H (dflA "Summary" "__init__" 0 K) []) (kx_Collector_Summary : PySem.W.kitOne K (.ref (He.ga K "Collector")) (.ref (He.ga K "Summary")) = some false) (kx_Summary_Collector : PySem.W.kitOne K (.ref (He.ga K "Summary")) (.ref (He.ga K "Collector")) = some false) (D : DfdM K "Collector" "__init__" "Collector.__init__" s_Collector___init__ [])
    (h_check_capacity : Has P w K mg base CX0 4 "check_capacity" s_check_capacity ["thing"] (sp_check_capacity K))
    (h_Summary___init__ : HasM P w K mg base CX0 5 "Summary" "__init__" "Summary.__init__" s_Summary___init__ [.ref (dflA "Summary" "__init__" 0 K)] ["self", "capacity", "counts"] (sp_Summary___init__ K)) : HasM P w K mg base CX0 7 "Collector" "__init__" "Collector.__init__" s_Collector___init__ [] ["self", "capacity"] (sp_Collector___init__ K) := by
  refine D.has sc_Collector___init__ (fun vs H Q E h => ?_) (fun cdv A outer s H vs Q E hr hg h => ?_)
  · obtain ⟨a, dx, c, rfl, _⟩ := h; rfl
  · obtain ⟨a, dx, c, rfl, ha, h1, h8, k⟩ := h
    have nd := sc_Collector___init__.nd
    refine ⟨_, PSs.nox (pss_cons (ps_expr (pe_fn h_check_capacity pb_check_capacity (hr.mono (by decide)) hg rfl pass0 (pa_cons (pv 1) pa_nil)))
      (pss_cons (k_sfld K (pv 0) (pv 1) rfl)
      (pss_cons (k_sfld K (pv 0) (pe_mk cl_Summary h_Summary___init__ bj_Summary___init___2 (hr.mono (by decide)) hg rfl pass0 (pa_cons (pv 1) pa_nil)) rfl)
      (pss_cons (k_sfld K (pv 0) (pe_tup pa_nil) rfl)
      (pss_cons (k_sfld K (pv 0) (pe_tup pa_nil) rfl)
      (pss_cons (k_sfld K (pv 0) pe_bl rfl)
      (pss_one (k_sfld K (pv 0) pe_int rfl)))))))), ?_⟩
    try dsimp only [cxOf]
    have est : ∀ a0 a1 : V, L2.start N_Collector___init__ [a0, a1] = [some a0, some a1] := fun _ _ => rfl
    simp only [est]
    clear est
    have hv1 : SumV c [] := ⟨h1, h8, ⟨.nil, nofun, nofun⟩, by show (0 : Int) ≤ c; omega⟩
    tm_at "vp"
    refine ⟨c, rfl, h1, h8, ?_⟩
    tm_at "vp"
    refine w_setc cl_Collector (by decide) ha (by decide) ?_
    rw [show putF "capacity" (V.int c) [] = ([("capacity", V.int c)] : List (Str × V)) from rfl]
    have b1 := @sameB_upd a H (HO.ins (He.ga K "Collector") dx ([("capacity", V.int c)] : List (Str × V)))
    have e1 := @upd_same H a (HO.ins (He.ga K "Collector") dx ([("capacity", V.int c)] : List (Str × V)))
    generalize upd H a (HO.ins (He.ga K "Collector") dx ([("capacity", V.int c)] : List (Str × V))) = H1 at *
    tm_at "vp"
    refine w_mkSum (fun _ => rfl) (.tup (et_Summary___init___0 _) .nil) hv1 fun B H2 s2 hB => ?_
    have e2 := s2 _ _ e1
    tm_at "vp"
    refine w_setc cl_Collector (by decide) e2 (by show 1 < 1000; decide) ?_
    rw [show putF "begin" B ([("capacity", V.int c)] : List (Str × V)) = ([("capacity", V.int c), ("begin", B)] : List (Str × V)) from rfl]
    have b3 := (b1.trans (same_b s2)).trans (@sameB_upd a H2 (HO.ins (He.ga K "Collector") dx ([("capacity", V.int c), ("begin", B)] : List (Str × V))))
    have e3 := @upd_same H2 a (HO.ins (He.ga K "Collector") dx ([("capacity", V.int c), ("begin", B)] : List (Str × V)))
    have hB3 : SumO K (upd H2 a (HO.ins (He.ga K "Collector") dx ([("capacity", V.int c), ("begin", B)] : List (Str × V)))) B c [] := sum_putC hB e2 nofun
    generalize upd H2 a (HO.ins (He.ga K "Collector") dx ([("capacity", V.int c), ("begin", B)] : List (Str × V))) = H3 at *
    clear hB b1 s2 e1 e2
    tm_at "vp"
    rename_i R hR
    have e4 := hp_new e3 hR (u := HO.tup [])
    have hB4 := sum_same (same_new hR (u := HO.tup [])) hB3
    have r4 := @upd_same H3 R (HO.tup [])
    have b4 := b3.trans (same_b (same_new hR (u := HO.tup [])))
    generalize upd H3 R (HO.tup []) = H4 at *
    clear hB3 b3 e3 hR
    refine w_setc cl_Collector (by decide) e4 (by show 2 < 1000; decide) ?_
    rw [show putF "rows" (V.ref R) ([("capacity", V.int c), ("begin", B)] : List (Str × V)) = ([("capacity", V.int c), ("begin", B), ("rows", .ref R)] : List (Str × V)) from rfl]
    have b5 := b4.trans (@sameB_upd a H4 (HO.ins (He.ga K "Collector") dx ([("capacity", V.int c), ("begin", B), ("rows", .ref R)] : List (Str × V))))
    have e5 := @upd_same H4 a (HO.ins (He.ga K "Collector") dx ([("capacity", V.int c), ("begin", B), ("rows", .ref R)] : List (Str × V)))
    have hB5 : SumO K (upd H4 a (HO.ins (He.ga K "Collector") dx ([("capacity", V.int c), ("begin", B), ("rows", .ref R)] : List (Str × V)))) B c [] := sum_putC hB4 e4 (fun b z => absurd (show some ("begin" : Str) = some "counts" from congrArg (fun l : List (Str × V) => (l.map (·.1))[1]?) z) (by decide +kernel))
    have r5 : SqT K (upd H4 a (HO.ins (He.ga K "Collector") dx ([("capacity", V.int c), ("begin", B), ("rows", .ref R)] : List (Str × V)))) R [] := sqt_d (SameD.put e4) (SqT.of r4)
    generalize upd H4 a (HO.ins (He.ga K "Collector") dx ([("capacity", V.int c), ("begin", B), ("rows", .ref R)] : List (Str × V))) = H5 at *
    clear hB4 b4 e4 r4
    tm_at "vp"
    rename_i P hP
    have e6 := hp_new e5 hP (u := HO.tup [])
    have hB6 := sum_same (same_new hP (u := HO.tup [])) hB5
    have r6 := sqt_same (same_new hP (u := HO.tup [])) r5
    have p6 := @upd_same H5 P (HO.tup [])
    have b6 := b5.trans (same_b (same_new hP (u := HO.tup [])))
    generalize upd H5 P (HO.tup []) = H6 at *
    clear hB5 b5 e5 hP r5
    refine w_setc cl_Collector (by decide) e6 (by show 3 < 1000; decide) ?_
    rw [show putF "past" (V.ref P) ([("capacity", V.int c), ("begin", B), ("rows", .ref R)] : List (Str × V)) = ([("capacity", V.int c), ("begin", B), ("rows", .ref R), ("past", .ref P)] : List (Str × V)) from rfl]
    have b7 := b6.trans (@sameB_upd a H6 (HO.ins (He.ga K "Collector") dx ([("capacity", V.int c), ("begin", B), ("rows", .ref R), ("past", .ref P)] : List (Str × V))))
    have e7 := @upd_same H6 a (HO.ins (He.ga K "Collector") dx ([("capacity", V.int c), ("begin", B), ("rows", .ref R), ("past", .ref P)] : List (Str × V)))
    have hB7 : SumO K (upd H6 a (HO.ins (He.ga K "Collector") dx ([("capacity", V.int c), ("begin", B), ("rows", .ref R), ("past", .ref P)] : List (Str × V)))) B c [] := sum_putC hB6 e6 nofun
    have r7 : SqT K (upd H6 a (HO.ins (He.ga K "Collector") dx ([("capacity", V.int c), ("begin", B), ("rows", .ref R), ("past", .ref P)] : List (Str × V)))) R [] := sqt_d (SameD.put e6) r6
    have p7 : SqT K (upd H6 a (HO.ins (He.ga K "Collector") dx ([("capacity", V.int c), ("begin", B), ("rows", .ref R), ("past", .ref P)] : List (Str × V)))) P [] := sqt_d (SameD.put e6) (SqT.of p6)
    generalize upd H6 a (HO.ins (He.ga K "Collector") dx ([("capacity", V.int c), ("begin", B), ("rows", .ref R), ("past", .ref P)] : List (Str × V))) = H7 at *
    clear hB6 b6 e6 r6 p6
    tm_at "vp"
    refine w_setc cl_Collector (by decide) e7 (by show 4 < 1000; decide) ?_
    rw [show putF "busy" (V.bl false) ([("capacity", V.int c), ("begin", B), ("rows", .ref R), ("past", .ref P)] : List (Str × V)) = ([("capacity", V.int c), ("begin", B), ("rows", .ref R), ("past", .ref P), ("busy", .bl false)] : List (Str × V)) from rfl]
    have b8 := b7.trans (@sameB_upd a H7 (HO.ins (He.ga K "Collector") dx ([("capacity", V.int c), ("begin", B), ("rows", .ref R), ("past", .ref P), ("busy", .bl false)] : List (Str × V))))
    have e8 := @upd_same H7 a (HO.ins (He.ga K "Collector") dx ([("capacity", V.int c), ("begin", B), ("rows", .ref R), ("past", .ref P), ("busy", .bl false)] : List (Str × V)))
    have hB8 : SumO K (upd H7 a (HO.ins (He.ga K "Collector") dx ([("capacity", V.int c), ("begin", B), ("rows", .ref R), ("past", .ref P), ("busy", .bl false)] : List (Str × V)))) B c [] := sum_putC hB7 e7 nofun
    have r8 : SqT K (upd H7 a (HO.ins (He.ga K "Collector") dx ([("capacity", V.int c), ("begin", B), ("rows", .ref R), ("past", .ref P), ("busy", .bl false)] : List (Str × V)))) R [] := sqt_d (SameD.put e7) r7
    have p8 : SqT K (upd H7 a (HO.ins (He.ga K "Collector") dx ([("capacity", V.int c), ("begin", B), ("rows", .ref R), ("past", .ref P), ("busy", .bl false)] : List (Str × V)))) P [] := sqt_d (SameD.put e7) p7
    generalize upd H7 a (HO.ins (He.ga K "Collector") dx ([("capacity", V.int c), ("begin", B), ("rows", .ref R), ("past", .ref P), ("busy", .bl false)] : List (Str × V))) = H8 at *
    clear hB7 b7 e7 r7 p7
    tm_at "vp"
    refine w_setc cl_Collector (by decide) e8 (by show 5 < 1000; decide) ?_
    rw [show putF "attempts" (V.int 0) ([("capacity", V.int c), ("begin", B), ("rows", .ref R), ("past", .ref P), ("busy", .bl false)] : List (Str × V)) = ([("capacity", V.int c), ("begin", B), ("rows", .ref R), ("past", .ref P), ("busy", .bl false), ("attempts", .int 0)] : List (Str × V)) from rfl]
    have b9 := b8.trans (@sameB_upd a H8 (HO.ins (He.ga K "Collector") dx ([("capacity", V.int c), ("begin", B), ("rows", .ref R), ("past", .ref P), ("busy", .bl false), ("attempts", .int 0)] : List (Str × V))))
    have e9 := @upd_same H8 a (HO.ins (He.ga K "Collector") dx ([("capacity", V.int c), ("begin", B), ("rows", .ref R), ("past", .ref P), ("busy", .bl false), ("attempts", .int 0)] : List (Str × V)))
    have hB9 : SumO K (upd H8 a (HO.ins (He.ga K "Collector") dx ([("capacity", V.int c), ("begin", B), ("rows", .ref R), ("past", .ref P), ("busy", .bl false), ("attempts", .int 0)] : List (Str × V)))) B c [] := sum_putC hB8 e8 nofun
    have r9 : SqT K (upd H8 a (HO.ins (He.ga K "Collector") dx ([("capacity", V.int c), ("begin", B), ("rows", .ref R), ("past", .ref P), ("busy", .bl false), ("attempts", .int 0)] : List (Str × V)))) R [] := sqt_d (SameD.put e8) r8
    have p9 : SqT K (upd H8 a (HO.ins (He.ga K "Collector") dx ([("capacity", V.int c), ("begin", B), ("rows", .ref R), ("past", .ref P), ("busy", .bl false), ("attempts", .int 0)] : List (Str × V)))) P [] := sqt_d (SameD.put e8) p8
    tm_at "vp"
    exact k _ B (.ref R) (.ref P) b9 ⟨e9, hB9, ⟨R, [], rfl, r9, .nil⟩, ⟨P, [], rfl, p9, .nil⟩⟩
theorem ok_Collector___eq__ {P : Program} {w : World} {K : PySem.W.Frag} {mg : Str → Option Value} {base : Heap} (fr : Fre mg) (cl_Collector : ClsF K mg "Collector" ["capacity", "begin", "rows", "past", "busy", "attempts", "__bool__"]) (cl_Summary : ClsF K mg "Summary" ["capacity", "counts", "__bool__"]) (et_Summary___init___0 : ∀ H : Hp, SqT K H (dflA "Summary" "__init__" 0 K) []) (kx_Collector_Summary : PySem.W.kitOne K (.ref (He.ga K "Collector")) (.ref (He.ga K "Summary")) = some false) (kx_Summary_Collector : PySem.W.kitOne K (.ref (He.ga K "Summary")) (.ref (He.ga K "Collector")) = some false) (D : DfdM K "Collector" "__eq__" "Collector.__eq__" s_Collector___eq__ [])
    (h_Summary___eq__ : HasMA P w K mg base CX0 1 "Summary" "__eq__" "Summary.__eq__" s_Summary___eq__ [] ["self", "other"] (sp_Summary___eq__ K)) : HasM P w K mg base CX0 3 "Collector" "__eq__" "Collector.__eq__" s_Collector___eq__ [] ["self", "other"] (sp_Collector___eq__ K) := by
  refine D.has sc_Collector___eq__ (fun vs H Q E h => ?_) (fun cdv A outer s H vs Q E hr hg h => ?_)
  · obtain ⟨a, b, dx, dy, c, s, s', past, past', busy, busy', att, att', B, R, P, B', R', P', rfl, _⟩ := h; rfl
  · obtain ⟨a, b, dx, dy, c, s, s', past, past', busy, busy', att, att', B, R, P, B', R', P', rfl, ho, ho', hs, hs', k⟩ := h
    have nd := sc_Collector___eq__.nd
    refine ⟨_, PSs.nox (pss_cons (ps_if (PW.pt (pw_or (pt_not (pt_val (pe_callB (k_isi K) rfl fr.isinstance_ (by decide +kernel) (pa_cons (pv 1) (pa_cons (pe_glob (v := .ref (He.ga K "Collector")) rfl cl_Collector.glo rfl) pa_nil))))) (pw_or1 (pt_cmpR op_ne (k_fld K (pv 0) rfl) (k_fld K (pv 1) rfl) (nomark _))))) (pss_one (ps_ret pe_bl)) pss_nil)
      (pss_one (ps_ret (pe_and (pe_cmpR (s_eqA K h_Summary___eq__.hasM bj_Summary___eq___2 (hr.mono (by decide)) hg pass0) (k_fld K (pv 0) rfl) (k_fld K (pv 1) rfl) (nomark _)) (pe_one (pe_cmpR (op_rows K h_Summary___eq__ bj_Summary___eq___2 (by decide) (by rintro a b H Q E ⟨c, ps, h1, hv, h2⟩ k; exact ⟨.ref a, .ref b, c, ps, rfl, h1, hv, .inl ⟨c, ps, h2, hv, by simpa using k H (Ext.rfl')⟩⟩) pass0 (hr.mono (by decide)) (hr.units)) (k_fld K (pv 0) rfl) (k_fld K (pv 1) rfl) (nomark _))))))), ?_⟩
    try dsimp only [cxOf]
    have est : ∀ a0 a1 : V, L2.start N_Collector___eq__ [a0, a1] = [some a0, some a1] := fun _ _ => rfl
    simp only [est]
    clear est
    tm_at "vp"
    refine w_isiT cl_Collector ho'.ins ?_
    tm_at "vp"
    refine w_colCap cl_Collector ho ?_
    tm_at "vp"
    refine w_colCap cl_Collector ho' ?_
    have e1 : s.1 = s'.1 := by
      rcases k with ⟨rfl, _⟩ | ⟨_, _, e, _⟩
      · rfl
      · exact e
    have hb' := ho'.beg
    rw [← e1] at hb'
    tm_at "vp"
    rw [if_neg (by simp)]
    tm_at "vp"
    refine w_colBeg cl_Collector ho ?_
    tm_at "vp"
    refine w_colBeg cl_Collector ho' ?_
    refine w_cmpSum cl_Summary ho.beg hb' ?_
    refine ⟨B, B', c, s.1, rfl, ho.beg, hs.1, .inl ⟨c, s.1, hb', hs.1, ?_⟩⟩
    refine ⟨_, rfl, ?_⟩
    rw [decide_eq_true rfl, decide_eq_true rfl]
    tm_at "vp"
    rw [if_pos (by decide)]
    tm_at "vp"
    refine w_colRows cl_Collector ho ?_
    tm_at "vp"
    refine w_colRows cl_Collector ho' ?_
    rcases k with ⟨rfl, k⟩ | ⟨ps, qs, _, h1, h2, hne, k⟩
    · exact w_rowsEq ho.rows ho'.rows hs.2.2 fun H' s' => k H' s'
    · have r1 := ho.rows
      have r2 := ho'.rows
      have v1 := hs.2.2
      have v2 := hs'.2.2
      rw [h1] at r1 v1
      rw [h2] at r2 v2
      refine w_rowsNe r1 r2 v1 v2 ?_
      rw [decide_eq_false hne]
      exact k
theorem ok_Collector___len__ {P : Program} {w : World} {K : PySem.W.Frag} {mg : Str → Option Value} {base : Heap} (fr : Fre mg) (cl_Collector : ClsF K mg "Collector" ["capacity", "begin", "rows", "past", "busy", "attempts", "__bool__"]) (D : DfdM K "Collector" "__len__" "Collector.__len__" s_Collector___len__ []) : HasM P w K mg base CX0 1 "Collector" "__len__" "Collector.__len__" s_Collector___len__ [] ["self"] (sp_Collector___len__ K) := by
  refine D.has sc_Collector___len__ (fun vs H Q E h => ?_) (fun cdv A outer s H vs Q E hr hg h => ?_)
  · obtain ⟨a, dx, c, s, past, busy, att, B, R, P, rfl, _⟩ := h; rfl
  · obtain ⟨a, dx, c, s, past, busy, att, B, R, P, rfl, ho, k⟩ := h
    have nd := sc_Collector___len__.nd
    refine ⟨_, PSs.nox (pss_one (ps_ret (pe_callB (k_len K) rfl fr.len_ (by decide +kernel) (pa_cons (k_fld K (pv 0) rfl) pa_nil)))), ?_⟩
    try dsimp only [cxOf]
    have est : ∀ a0 : V, L2.start N_Collector___len__ [a0] = [some a0] := fun _ => rfl
    simp only [est]
    clear est
    obtain ⟨T, xs, rfl, hT, hxs⟩ := ho.rows
    tm_at "vp"
    refine w_colRows cl_Collector ho ?_
    tm_at "vp"
    refine w_lenT hT ?_
    rw [hxs.len]
    exact k
theorem ok_Collector___str__ {P : Program} {w : World} {K : PySem.W.Frag} {mg : Str → Option Value} {base : Heap} (fr : Fre mg) (cl_Collector : ClsF K mg "Collector" ["capacity", "begin", "rows", "past", "busy", "attempts", "__bool__"]) (cl_Summary : ClsF K mg "Summary" ["capacity", "counts", "__bool__"]) (et_Summary___init___0 : ∀ H : Hp, SqT K H (dflA "Summary" "__init__" 0 K) []) (kx_Collector_Summary : PySem.W.kitOne K (.ref (He.ga K "Collector")) (.ref (He.ga K "Summary")) = some false) (kx_Summary_Collector : PySem.W.kitOne K (.ref (He.ga K "Summary")) (.ref (He.ga K "Collector")) = some false) (D : DfdM K "Collector" "__str__" "Collector.__str__" s_Collector___str__ [])
    (h_Summary___str__ : HasM P w K mg base CX0 2 "Summary" "__str__" "Summary.__str__" s_Summary___str__ [] ["self"] (sp_Summary___str__ K))
    (h_current_of : Has P w K mg base CX0 8 "current_of" s_current_of ["begin", "rows"] (sp_current_of K)) : HasM P w K mg base CX0 9 "Collector" "__str__" "Collector.__str__" s_Collector___str__ [] ["self"] (sp_Collector___str__ K) := by
  refine D.has sc_Collector___str__ (fun vs H Q E h => ?_) (fun cdv A outer s H vs Q E hr hg h => ?_)
  · obtain ⟨a, dx, c, s, past, busy, att, B, R, P, rfl, _⟩ := h; rfl
  · obtain ⟨a, dx, c, s, past, busy, att, B, R, P, rfl, ho, hs, hl, k⟩ := h
    have nd := sc_Collector___str__.nd
    refine ⟨_, PSs.nox (pss_one (ps_ret (pe_callTy (s_str K h_Summary___str__ bj_Summary___str___1 (hr.mono (by decide)) hg pass0) rfl fr.str_ (by decide +kernel) (pa_cons (pe_fn h_current_of pb_current_of (hr.mono (by decide)) hg rfl pass0 (pa_cons (k_fld K (pv 0) rfl) (pa_cons (k_fld K (pv 0) rfl) pa_nil))) pa_nil)))), ?_⟩
    try dsimp only [cxOf]
    have est : ∀ a0 : V, L2.start N_Collector___str__ [a0] = [some a0] := fun _ => rfl
    simp only [est]
    clear est
    tm_at "vp"
    refine w_colBeg cl_Collector ho ?_
    tm_at "vp"
    refine w_colRows cl_Collector ho ?_
    tm_at "vp"
    refine ⟨c, B, R, s, rfl, ho.beg, ho.rows, hs, hl, fun v' H1 s1 h1 h2 h3 => ?_⟩
    tm_at "vp"
    refine w_strSum h1 ?_
    have hb : BagS (nowT c s.1 s.2) := h2.ok.s fun p hp => Int.le_trans (mem_le (fun q hq => by have := h2.ok.pos q hq; omega) p hp) (Int.le_trans h3 (by decide))
    exact ⟨v', c, _, rfl, h1, h2, hb, fun H2 s2 => ⟨_, rfl, k _ (s1.trans s2)⟩⟩
theorem ok_Collector___repr__ {P : Program} {w : World} {K : PySem.W.Frag} {mg : Str → Option Value} {base : Heap} (fr : Fre mg) (cl_Collector : ClsF K mg "Collector" ["capacity", "begin", "rows", "past", "busy", "attempts", "__bool__"]) (D : DfdM K "Collector" "__repr__" "Collector.__repr__" s_Collector___repr__ []) : HasM P w K mg base CX0 1 "Collector" "__repr__" "Collector.__repr__" s_Collector___repr__ [] ["self"] (sp_Collector___repr__ K) := by
  refine D.has sc_Collector___repr__ (fun vs H Q E h => ?_) (fun cdv A outer s H vs Q E hr hg h => ?_)
  · obtain ⟨a, dx, c, s, past, busy, att, B, R, P, rfl, _⟩ := h; rfl
  · obtain ⟨a, dx, c, s, past, busy, att, B, R, P, rfl, ho, c0, c8, hl, k⟩ := h
    have nd := sc_Collector___repr__.nd
    refine ⟨_, PSs.nox (pss_one (ps_ret (k_joined (.cons pe_str (.cons (pe_fmt (k_fld K (pv 0) rfl)) (.cons pe_str (.cons (pe_fmt (pe_callB (k_len K) rfl fr.len_ (by decide +kernel) (pa_cons (k_fld K (pv 0) rfl) pa_nil))) (.cons pe_str .nil)))))))), ?_⟩
    try dsimp only [cxOf]
    have est : ∀ a0 : V, L2.start N_Collector___repr__ [a0] = [some a0] := fun _ => rfl
    simp only [est]
    clear est
    obtain ⟨T, xs, rfl, hT, hxs⟩ := ho.rows
    have hlen := hxs.len
    have q1 := intS_len (i := c) c0 (Int.le_trans c8 (by decide))
    have q2 := intS_len (i := (s.2.length : Nat)) (by omega) (Int.le_trans (show ((s.2.length : Nat) : Int) ≤ 1000 by omega) (by decide))
    have l1 : Str.length ("Collector(" : Str) = 10 := by decide +kernel
    have l2 : Str.length (", " : Str) = 2 := by decide +kernel
    have l3 : Str.length (" entries)" : Str) = 9 := by decide +kernel
    tm_at "vp"
    refine w_jsc (by rw [empty_app]; omega) ?_
    rw [empty_app]
    tm_at "vp"
    refine w_colCap cl_Collector ho ?_
    refine w_fmtI (by omega) (Int.le_trans c8 (by decide)) ?_
    refine w_jsc (by rw [app_len]; omega) ?_
    tm_at "vp"
    refine w_jsc (by rw [app_len, app_len]; omega) ?_
    tm_at "vp"
    refine w_colRows cl_Collector ho ?_
    tm_at "vp"
    refine w_lenT hT ?_
    rw [hlen]
    refine w_fmtI (by omega) (Int.le_trans (show ((s.2.length : Nat) : Int) ≤ 1000 by omega) (by decide)) ?_
    refine w_jsc (by rw [app_len, app_len, app_len]; omega) ?_
    tm_at "vp"
    refine w_jsc (by rw [app_len, app_len, app_len, app_len]; omega) ?_
    tm_at "vp"
    exact k _ (Same.refl _)
theorem ok_Collector_start {P : Program} {w : World} {K : PySem.W.Frag} {mg : Str → Option Value} {base : Heap} (fr : Fre mg) (cl_Collector : ClsF K mg "Collector" ["capacity", "begin", "rows", "past", "busy", "attempts", "__bool__"]) (D : DfdM K "Collector" "start" "Collector.start" s_Collector_start []) : HasM P w K mg base CX0 1 "Collector" "start" "Collector.start" s_Collector_start [] ["self"] (sp_Collector_start K) := by
  refine D.has sc_Collector_start (fun vs H Q E h => ?_) (fun cdv A outer s H vs Q E hr hg h => ?_)
  · obtain ⟨a, dx, c, s, past, busy, att, B, R, P, rfl, _⟩ := h; rfl
  · obtain ⟨a, dx, c, s, past, busy, att, B, R, P, rfl, ho, k⟩ := h
    have nd := sc_Collector_start.nd
    refine ⟨_, PSs.nox (pss_one (ps_ret (k_fld K (pv 0) rfl))), ?_⟩
    try dsimp only [cxOf]
    have est : ∀ a0 : V, L2.start N_Collector_start [a0] = [some a0] := fun _ => rfl
    simp only [est]
    clear est
    tm_at "vp"
    exact w_colBeg cl_Collector ho k
theorem ok_Collector_entries {P : Program} {w : World} {K : PySem.W.Frag} {mg : Str → Option Value} {base : Heap} (fr : Fre mg) (cl_Collector : ClsF K mg "Collector" ["capacity", "begin", "rows", "past", "busy", "attempts", "__bool__"]) (D : DfdM K "Collector" "entries" "Collector.entries" s_Collector_entries []) : HasM P w K mg base CX0 1 "Collector" "entries" "Collector.entries" s_Collector_entries [] ["self"] (sp_Collector_entries K) := by
  refine D.has sc_Collector_entries (fun vs H Q E h => ?_) (fun cdv A outer s H vs Q E hr hg h => ?_)
  · obtain ⟨a, dx, c, s, past, busy, att, B, R, P, rfl, _⟩ := h; rfl
  · obtain ⟨a, dx, c, s, past, busy, att, B, R, P, rfl, ho, k⟩ := h
    have nd := sc_Collector_entries.nd
    refine ⟨_, PSs.nox (pss_one (ps_ret (k_fld K (pv 0) rfl))), ?_⟩
    try dsimp only [cxOf]
    have est : ∀ a0 : V, L2.start N_Collector_entries [a0] = [some a0] := fun _ => rfl
    simp only [est]
    clear est
    tm_at "vp"
    exact w_colRows cl_Collector ho k
theorem ok_Collector_current {P : Program} {w : World} {K : PySem.W.Frag} {mg : Str → Option Value} {base : Heap} (fr : Fre mg) (cl_Collector : ClsF K mg "Collector" ["capacity", "begin", "rows", "past", "busy", "attempts", "__bool__"]) (D : DfdM K "Collector" "current" "Collector.current" s_Collector_current [])
    (h_current_of : Has P w K mg base CX0 8 "current_of" s_current_of ["begin", "rows"] (sp_current_of K)) : HasM P w K mg base CX0 9 "Collector" "current" "Collector.current" s_Collector_current [] ["self"] (sp_Collector_current K) := by
  refine D.has sc_Collector_current (fun vs H Q E h => ?_) (fun cdv A outer s H vs Q E hr hg h => ?_)
  · obtain ⟨a, dx, c, s, past, busy, att, B, R, P, rfl, _⟩ := h; rfl
  · obtain ⟨a, dx, c, s, past, busy, att, B, R, P, rfl, ho, hs, hl, k⟩ := h
    have nd := sc_Collector_current.nd
    refine ⟨_, PSs.nox (pss_one (ps_ret (pe_fn h_current_of pb_current_of (hr.mono (by decide)) hg rfl pass0 (pa_cons (k_fld K (pv 0) rfl) (pa_cons (k_fld K (pv 0) rfl) pa_nil))))), ?_⟩
    try dsimp only [cxOf]
    have est : ∀ a0 : V, L2.start N_Collector_current [a0] = [some a0] := fun _ => rfl
    simp only [est]
    clear est
    tm_at "vp"
    refine w_colBeg cl_Collector ho ?_
    tm_at "vp"
    refine w_colRows cl_Collector ho ?_
    tm_at "vp"
    exact ⟨c, B, R, s, rfl, ho.beg, ho.rows, hs, hl, k⟩
theorem ok_Collector_history {P : Program} {w : World} {K : PySem.W.Frag} {mg : Str → Option Value} {base : Heap} (fr : Fre mg) (cl_Collector : ClsF K mg "Collector" ["capacity", "begin", "rows", "past", "busy", "attempts", "__bool__"]) (D : DfdM K "Collector" "history" "Collector.history" s_Collector_history []) : HasM P w K mg base CX0 1 "Collector" "history" "Collector.history" s_Collector_history [] ["self"] (sp_Collector_history K) := by
  refine D.has sc_Collector_history (fun vs H Q E h => ?_) (fun cdv A outer s H vs Q E hr hg h => ?_)
  · obtain ⟨a, dx, c, s, past, busy, att, B, R, P, rfl, _⟩ := h; rfl
  · obtain ⟨a, dx, c, s, past, busy, att, B, R, P, rfl, ho, hl, k⟩ := h
    have nd := sc_Collector_history.nd
    refine ⟨_, PSs.nox (pss_one (ps_ret (pe_callTy (k_tuple K) rfl fr.tuple_ (by decide +kernel) (pa_cons (pe_lc (own := [("action", 1), ("state", 2)]) (g := gTup K 2 (gCons (gName 1) (gCons (gName 2) gNil))) (tt := tYes) rfl nd (k_iTup K (k_fld K (pv 0) rfl)) (blkOk_by (own := [("action", 1), ("state", 2)]) (N := N_Collector_history) (sc := defScope s_Collector_history) (by decide +kernel)) (fun _ _ _ _ _ => (k_gtup K rfl (pgs_cons (pg_name (i := 1) nd rfl (Or.inl rfl)) (pgs_cons (pg_name (i := 2) nd rfl (Or.inl rfl)) pgs_nil)))) (fun _ _ _ _ _ => pts_nil) (fun _ _ _ _ _ => (pv 1))) pa_nil)))), ?_⟩
    try dsimp only [cxOf]
    have est : ∀ a0 : V, L2.start N_Collector_history [a0] = [some a0, none, none] := fun _ => rfl
    simp only [est]
    clear est
    obtain ⟨T, xs, rfl, hT, hxs⟩ := ho.past
    have hlen := hxs.len
    tm_at "vp"
    refine w_colPast cl_Collector ho ?_
    refine w_onT hT ?_
    intro D hD
    refine lc_map (walk_tup (xs := xs)) (by rw [hlen]; exact hl) (fun i y => ∃ e, past[i]? = some e ∧ DeedO K H c y e.1) hD (fun _ s => sqt_same s hT) ?_ ?_ mono_gpair
    · rintro i y G1 G2 hi sg ⟨rfl, hy⟩ Qy hq
      obtain ⟨e, e1, E1, v1, v2, rfl, hE, hde, hst⟩ := hxs.get hy
      refine w_gtup (sqt_same sg hE) rfl ?_
      tm_at "vp"
      refine ⟨rfl, ?_⟩
      tm_at "vp"
      exact hq _ _ (Same.refl _) ⟨e, e1, hde⟩
    intro acc H1 s1 _ hacc hal hf
    tm_at "vp"
    refine w_tupL (SqL.of hacc) fun T2 hT2 => ?_
    have s2 := s1.trans (same_new hT2 (u := HO.tup acc))
    refine k T2 acc _ s2 upd_same (All2.of (by rw [hal, List.length_map, hlen]) fun i y act hy ha => ?_)
    rw [List.getElem?_map] at ha
    obtain ⟨e, e1, e2⟩ := Option.map_eq_some_iff.mp ha
    obtain ⟨e', e3, h4⟩ := hf i y hy
    rw [e1] at e3
    cases e3
    rw [← e2]
    exact deedO_c (SameC.of s2) h4
theorem ok_Collector_arrived {P : Program} {w : World} {K : PySem.W.Frag} {mg : Str → Option Value} {base : Heap} (fr : Fre mg) (c_MAX_NAMES : ∃ t, mg "MAX_NAMES" = some (.int 12 t)) (cl_Collector : ClsF K mg "Collector" ["capacity", "begin", "rows", "past", "busy", "attempts", "__bool__"]) (D : DfdM K "Collector" "arrived" "Collector.arrived" s_Collector_arrived [])
    (h_table_of : Has P w K mg base CX0 1 "table_of" s_table_of ["pairs"] (sp_table_of K))
    (h_is_summary : Has P w K mg base CX0 1 "is_summary" s_is_summary ["thing"] (sp_is_summary K))
    (h_counts_of_table : Has P w K mg base CX0 1 "counts_of_table" s_counts_of_table ["table"] (sp_counts_of_table K)) : HasM P w K mg base CX0 2 "Collector" "arrived" "Collector.arrived" s_Collector_arrived [] ["self"] (sp_Collector_arrived K) := by
  refine D.has sc_Collector_arrived (fun vs H Q E h => ?_) (fun cdv A outer s H vs Q E hr hg h => ?_)
  · obtain ⟨a, dx, c, s, past, busy, att, B, R, P, rfl, _⟩ := h; rfl
  · obtain ⟨a, dx, c, s, past, busy, att, B, R, P, rfl, ho, hs, hl, h12, k⟩ := h
    obtain ⟨_, g_MAX_NAMES⟩ := c_MAX_NAMES
    have nd := sc_Collector_arrived.nd
    refine ⟨_, PSs.nox (pss_cons (ps_set (i := 1) nd rfl (Or.inl rfl) (pe_fn h_table_of pb_table_of (hr.mono (by decide)) hg rfl pass0 (pa_cons (pe_lc (own := [("row", 2)]) (g := gName 2) rfl nd (k_iTup K (k_fld K (pv 0) rfl)) (blkOk_by (own := [("row", 2)]) (N := N_Collector_arrived) (sc := defScope s_Collector_arrived) (by decide +kernel)) (fun _ _ _ _ _ => (pg_name (i := 2) nd rfl (Or.inl rfl))) (fun _ _ _ _ _ => (pts_one (pt_not (pt_val (pe_fn h_is_summary pb_is_summary (hr.mono (by decide)) hg rfl pass0 (pa_cons (pv 2) pa_nil)))))) (fun _ _ _ _ _ => (pv 2))) pa_nil)))
      (pss_cons (ps_if (pt_cmpR op_gt (pe_callB c_lenD rfl fr.len_ (by decide +kernel) (pa_cons (pv 1) pa_nil)) (pe_glob (v := .int 12) rfl g_MAX_NAMES ⟨_, rfl⟩) (nomark _)) (pss_one ps_never) pss_nil)
      (pss_one (ps_ret (pe_fn h_counts_of_table pb_counts_of_table (hr.mono (by decide)) hg rfl pass0 (pa_cons (pv 1) pa_nil)))))), ?_⟩
    try dsimp only [cxOf]
    have est : ∀ a0 : V, L2.start N_Collector_arrived [a0] = [some a0, none, none] := fun _ => rfl
    simp only [est]
    clear est
    obtain ⟨T, xs, rfl, hT, hxs⟩ := ho.rows
    have hlen := hxs.len
    tm_at "vp"
    refine w_colRows cl_Collector ho ?_
    refine w_onT hT ?_
    intro D hD
    refine lc_fmd K (walk_tup (xs := xs)) s.2 (fun r => (rowRun r).map pairD) hlen.symm (by rw [hlen]; omega) (fun r d e => by
      cases r with
      | run n m => cases e; rfl
      | sum qs => cases e) hD (fun _ s1 => sqt_same s1 hT) ?_ ?_
    · rintro i y row G1 G2 hj s1 ⟨rfl, hy⟩ Qy Qn hq1 hq2
      obtain ⟨r', e1, hr'⟩ := hxs.get hy
      rw [hj] at e1
      cases e1
      have hr' := rowO_c (SameC.of s1) hr'
      refine w_gname ⟨rfl, ?_⟩
      tm_at "vp"
      cases row with
      | run n m =>
        refine ⟨y, false, rfl, .inr ⟨rfl, _, hr'⟩, ?_⟩
        tm_at "vp"
        exact hq1 _ _ _ (Same.refl _) rfl hr'
      | sum qs =>
        refine ⟨y, true, rfl, .inl ⟨rfl, c, qs, hr'⟩, ?_⟩
        tm_at "vp"
        exact hq2 _ (Same.refl _) rfl
    intro acc H1 s1 _ hacc hdp
    have e : s.2.filterMap (fun r => (rowRun r).map pairD) = (runsR s.2).map pairD := by
      unfold runsR
      rw [List.map_filterMap]
    rw [e] at hdp
    have hrl := runsR_len s.2
    tm_at "vp"
    refine ⟨.ref D, runsR s.2, rfl, .inr ⟨D, acc, rfl, hacc, hdp⟩, by omega, fun t H2 ht s2 hd2 => ?_⟩
    tm_at "vp"
    refine w_lenD hd2 ?_
    rw [kv_len]
    tm_at "vp"
    refine w_ited (fun h => absurd h (by omega)) (fun h => ?_)
    tm_at "vp"
    exact ⟨t, tabOf (runsR s.2), rfl, hd2, tabOf_nd _, by omega, fun v ps H3 s3 hdp3 hcan _ hmem => k v ps _ (s1.trans (s2.trans s3)) hdp3 hcan hmem⟩
theorem ok_Collector_change {P : Program} {w : World} {K : PySem.W.Frag} {mg : Str → Option Value} {base : Heap} (fr : Fre mg) (cl_Collector : ClsF K mg "Collector" ["capacity", "begin", "rows", "past", "busy", "attempts", "__bool__"]) (D : DfdM K "Collector" "change" "Collector.change" s_Collector_change [])
    (h_state_after : Has P w K mg base CX0 5 "state_after" s_state_after ["capacity", "state", "action"] (sp_state_after K)) : HasM P w K mg base CX0 6 "Collector" "change" "Collector.change" s_Collector_change [] ["self", "action"] (sp_Collector_change K) := by
  refine D.has sc_Collector_change (fun vs H Q E h => ?_) (fun cdv A outer s H vs Q E hr hg h => ?_)
  · obtain ⟨a, dx, c, s, past, busy, att, B, R, P, v, act, rfl, _⟩ := h; rfl
  · obtain ⟨a, dx, c, s, past, busy, att, B, R, P, v, act, rfl, ho, hd, hv, hl, hp, k⟩ := h
    have nd := sc_Collector_change.nd
    refine ⟨_, PSs.nox (pss_cons (ps_set (i := 2) nd rfl (Or.inl rfl) (pe_tup (pa_cons (k_fld K (pv 0) rfl) (pa_cons (k_fld K (pv 0) rfl) pa_nil))))
      (pss_cons (ps_asg (pe_fn h_state_after pb_state_after (hr.mono (by decide)) hg rfl pass0 (pa_cons (k_fld K (pv 0) rfl) (pa_cons (pv 2) (pa_cons (pv 1) pa_nil)))) (k_gtup K rfl (pgs_cons (k_gfld K (pv 0)) (pgs_cons (k_gfld K (pv 0)) pgs_nil))))
      (pss_one (k_sfld K (pv 0) (pe_op (k_catT K) (k_fld K (pv 0) rfl) (pe_tup (pa_cons (pe_tup (pa_cons (pv 1) (pa_cons (pv 2) pa_nil))) pa_nil))) rfl)))), ?_⟩
    try dsimp only [cxOf]
    have est : ∀ a0 a1 : V, L2.start N_Collector_change [a0, a1] = [some a0, some a1, none] := fun _ _ => rfl
    simp only [est]
    clear est
    tm_at "vp"
    refine w_colBeg cl_Collector ho ?_
    tm_at "vp"
    refine w_colRows cl_Collector ho ?_
    tm_at "vp"
    rename_i S hS
    have s1 := same_new hS (u := HO.tup [B, R])
    have hS1 := @upd_same H S (HO.tup [B, R])
    generalize upd H S (HO.tup [B, R]) = H1 at *
    have ho1 := ho.same s1
    have hd1 := deedO_c (SameC.of s1) hd
    have hst0 : StaO K H1 c (.ref S) s := ⟨S, B, R, rfl, SqT.of hS1, ho1.beg, ho1.rows⟩
    refine w_colCap cl_Collector ho1 ?_
    tm_at "vp"
    refine ⟨c, .ref S, v, s, act, rfl, hst0, hd1, hv, hl, fun v' H2 s2 hst => ?_⟩
    obtain ⟨S2, B2, R2, rfl, hS2, hB2, hR2⟩ := hst
    have e2 := s2 _ _ ho1.ins
    have b2 : SameB a H H2 := same_b (s1.trans s2)
    tm_at "vp"
    refine w_gtup hS2 rfl ?_
    refine ⟨B2, [R2], rfl, w_gfld ?_⟩
    tm_at "vp"
    refine w_colSet cl_Collector (by decide) e2 ?_
    rw [show putF "begin" B2 (colFl c B R P busy att) = colFl c B2 R P busy att from rfl]
    have c3 := SameC.ofB (@sameB_upd a H2 (HO.ins (He.ga K "Collector") dx (colFl c B2 R P busy att))) e2 rfl
    have b3 := b2.trans (@sameB_upd a H2 (HO.ins (He.ga K "Collector") dx (colFl c B2 R P busy att)))
    have e3 := @upd_same H2 a (HO.ins (He.ga K "Collector") dx (colFl c B2 R P busy att))
    generalize upd H2 a (HO.ins (He.ga K "Collector") dx (colFl c B2 R P busy att)) = H3 at *
    refine ⟨R2, [], rfl, w_gfld ?_⟩
    tm_at "vp"
    refine w_colSet cl_Collector (by decide) e3 ?_
    rw [show putF "rows" R2 (colFl c B2 R P busy att) = colFl c B2 R2 P busy att from rfl]
    have c4 := c3.trans (SameC.ofB (@sameB_upd a H3 (HO.ins (He.ga K "Collector") dx (colFl c B2 R2 P busy att))) e3 rfl)
    have b4 := b3.trans (@sameB_upd a H3 (HO.ins (He.ga K "Collector") dx (colFl c B2 R2 P busy att)))
    have e4 := @upd_same H3 a (HO.ins (He.ga K "Collector") dx (colFl c B2 R2 P busy att))
    generalize upd H3 a (HO.ins (He.ga K "Collector") dx (colFl c B2 R2 P busy att)) = H4 at *
    have hpast := ho.past
    obtain ⟨T0, ps, rfl, hT0, hps⟩ := hpast
    have hpl := hps.len
    tm_at "vp"
    refine w_fldc cl_Collector (by decide) e4 rfl ?_
    tm_at "vp"
    rename_i E1 hE1 E2 hE2
    have s6 := (same_new hE1 (u := HO.tup [v, .ref S])).trans (same_new hE2 (u := HO.tup [.ref E1]))
    have f1 := hp_new (upd_same (H := H4) (a := E1) (o := HO.tup [v, .ref S])) hE2 (u := HO.tup [.ref E1])
    have f2 := @upd_same (upd H4 E1 (HO.tup [v, .ref S])) E2 (HO.tup [.ref E1])
    generalize upd (upd H4 E1 (HO.tup [v, .ref S])) E2 (HO.tup [.ref E1]) = H6 at *
    have cH6 : SameC H H6 := ((SameC.ofB b4 ho.ins rfl)).trans (SameC.of s6)
    refine w_catT (sqt_c cH6 hT0) (SqT.of f2) (by rw [hpl]; show past.length + 1 ≤ 100000; omega) fun D H7 s7 hD => ?_
    have e7 := s7 _ _ (s6 _ _ e4)
    tm_at "vp"
    refine w_colSet cl_Collector (by decide) e7 ?_
    rw [show putF "past" (V.ref D) (colFl c B2 R2 (V.ref T0) busy att) = colFl c B2 R2 (.ref D) busy att from rfl]
    have c8 := SameC.ofB (@sameB_upd a H7 (HO.ins (He.ga K "Collector") dx (colFl c B2 R2 (.ref D) busy att))) e7 rfl
    have b8 := (b4.trans (same_b (s6.trans s7))).trans (@sameB_upd a H7 (HO.ins (He.ga K "Collector") dx (colFl c B2 R2 (.ref D) busy att)))
    have e8 := @upd_same H7 a (HO.ins (He.ga K "Collector") dx (colFl c B2 R2 (.ref D) busy att))
    generalize upd H7 a (HO.ins (He.ga K "Collector") dx (colFl c B2 R2 (.ref D) busy att)) = H8 at *
    have cH8 : SameC H H8 := SameC.ofB b8 ho.ins rfl
    have c18 : SameC H1 H8 := (SameC.of s2).trans (c4.trans ((SameC.of (s6.trans s7)).trans c8))
    have c28 : SameC H2 H8 := c4.trans ((SameC.of (s6.trans s7)).trans c8)
    tm_at "vp"
    refine k _ B2 R2 (.ref D) b8 ⟨e8, sum_c c28 hB2, rowsO_c c28 hR2, ⟨D, _, rfl, sqt_c c8 hD, (hps.imp fun _ _ => entO_c cH8).app (.cons ⟨E1, v, .ref S, rfl, sqt_c ((SameC.of s7).trans c8) (SqT.of f1), deedO_c cH8 hd, staO_c c18 hst0⟩ .nil)⟩⟩
theorem ok_Collector_do {P : Program} {w : World} {K : PySem.W.Frag} {mg : Str → Option Value} {base : Heap} (fr : Fre mg) (cl_Collector : ClsF K mg "Collector" ["capacity", "begin", "rows", "past", "busy", "attempts", "__bool__"]) (D : DfdM K "Collector" "do" "Collector.do" s_Collector_do [])
    (h_is_action : Has P w K mg base CX0 1 "is_action" s_is_action ["thing"] (sp_is_action K))
    (h_Collector_change : HasM P w K mg base CX0 6 "Collector" "change" "Collector.change" s_Collector_change [] ["self", "action"] (sp_Collector_change K))
    (h_Collector_current : HasM P w K mg base CX0 9 "Collector" "current" "Collector.current" s_Collector_current [] ["self"] (sp_Collector_current K)) : HasM P w K mg base CX0 10 "Collector" "do" "Collector.do" s_Collector_do [] ["self", "action"] (sp_Collector_do K) := by
  refine D.has sc_Collector_do (fun vs H Q E h => ?_) (fun cdv A outer s H vs Q E hr hg h => ?_)
  · obtain ⟨a, dx, c, s, past, busy, att, B, R, P, v, act, rfl, _⟩ := h; rfl
  · obtain ⟨a, dx, c, s, past, busy, att, B, R, P, v, act, rfl, ho, hbz, hs, hd, hv, hl, hp, k⟩ := h
    have nd := sc_Collector_do.nd
    refine ⟨_, PSs.nox (pss_cons (ps_if (pt_val (k_fld K (pv 0) rfl)) (pss_one ps_never) pss_nil)
      (pss_cons (ps_if (pt_not (pt_val (pe_fn h_is_action pb_is_action (hr.mono (by decide)) hg rfl pass0 (pa_cons (pv 1) pa_nil)))) (pss_one ps_never) pss_nil)
      (pss_cons (ps_expr (pe_mt cl_Collector h_Collector_change bj_Collector_change_2 (hr.mono (by decide)) hg pass0 (pv 0) (pa_cons (pv 1) pa_nil)))
      (pss_one (ps_ret (pe_mt0 cl_Collector h_Collector_current bj_Collector_current_1 (hr.mono (by decide)) hg pass0 (pv 0))))))), ?_⟩
    try dsimp only [cxOf]
    have est : ∀ a0 a1 : V, L2.start N_Collector_do [a0, a1] = [some a0, some a1] := fun _ _ => rfl
    simp only [est]
    clear est
    tm_at "vp"
    refine w_colBusy cl_Collector ho ?_
    refine w_bl ?_
    rw [if_neg (by decide)]
    tm_at "vp"
    refine ⟨v, c, act, rfl, hd, fun H1 s1 => ?_⟩
    have ho1 := ho.same s1
    tm_at "vp"
    refine w_colM ho1 (by decide +kernel) ?_
    tm_at "vp"
    refine ⟨a, dx, c, s, past, false, att, B, R, P, v, act, rfl, ho1, deedO_c (SameC.of s1) hd, hv, hl, hp, fun H2 B2 R2 P2 b2 ho2 => ?_⟩
    tm_at "vp"
    refine w_colM ho2 (by decide +kernel) ?_
    tm_at "vp"
    have hln := stepA_len s act
    refine ⟨a, dx, c, stepA s act, past ++ [(act, s)], false, att, B2, R2, P2, rfl, ho2, stepA_ok hs hv, by omega, fun v' H3 s3 h1 h2 h3 => ?_⟩
    exact k v' H3 B2 R2 P2 ((same_b s1).trans (b2.trans (same_b s3))) (ho2.same s3) h1 h2 h3
theorem ok_Collector_arrive {P : Program} {w : World} {K : PySem.W.Frag} {mg : Str → Option Value} {base : Heap} (fr : Fre mg) (cl_Collector : ClsF K mg "Collector" ["capacity", "begin", "rows", "past", "busy", "attempts", "__bool__"]) (D : DfdM K "Collector" "arrive" "Collector.arrive" s_Collector_arrive [.int 1])
    (h_Collector_do : HasM P w K mg base CX0 10 "Collector" "do" "Collector.do" s_Collector_do [] ["self", "action"] (sp_Collector_do K)) : HasM P w K mg base CX0 11 "Collector" "arrive" "Collector.arrive" s_Collector_arrive [.int 1] ["self", "name", "times"] (sp_Collector_arrive K) := by
  refine D.has sc_Collector_arrive (fun vs H Q E h => ?_) (fun cdv A outer s H vs Q E hr hg h => ?_)
  · obtain ⟨a, dx, c, s, past, att, B, R, P, n, m, rfl, _⟩ := h; rfl
  · obtain ⟨a, dx, c, s, past, att, B, R, P, n, m, rfl, ho, hs, hv, hl, hp, k⟩ := h
    have nd := sc_Collector_arrive.nd
    refine ⟨_, PSs.nox (pss_one (ps_ret (pe_mt cl_Collector h_Collector_do bj_Collector_do_2 (hr.mono (by decide)) hg pass0 (pv 0) (pa_cons (pe_tup (pa_cons pe_str (pa_cons (pv 1) (pa_cons (pv 2) pa_nil)))) pa_nil)))), ?_⟩
    try dsimp only [cxOf]
    have est : ∀ a0 a1 a2 : V, L2.start N_Collector_arrive [a0, a1, a2] = [some a0, some a1, some a2] := fun _ _ _ => rfl
    simp only [est]
    clear est
    tm_at "vp"
    refine w_colM ho (by decide +kernel) ?_
    tm_at "vp"
    rename_i e he
    have se := same_new he (u := HO.tup (actX .non (.arrive n m)))
    have ho1 := ho.same se
    exact ⟨a, dx, c, s, past, false, att, B, R, P, .ref e, .arrive n m, rfl, ho1, rfl, hs, ⟨e, .non, rfl, upd_same, trivial⟩, hv, hl, hp, fun v' H' B' R' P' b => k v' H' B' R' P' ((same_b se).trans b)⟩
theorem ok_Collector_merge {P : Program} {w : World} {K : PySem.W.Frag} {mg : Str → Option Value} {base : Heap} (fr : Fre mg) (cl_Collector : ClsF K mg "Collector" ["capacity", "begin", "rows", "past", "busy", "attempts", "__bool__"]) (D : DfdM K "Collector" "merge" "Collector.merge" s_Collector_merge [])
    (h_Collector_do : HasM P w K mg base CX0 10 "Collector" "do" "Collector.do" s_Collector_do [] ["self", "action"] (sp_Collector_do K)) : HasM P w K mg base CX0 11 "Collector" "merge" "Collector.merge" s_Collector_merge [] ["self", "summary"] (sp_Collector_merge K) := by
  refine D.has sc_Collector_merge (fun vs H Q E h => ?_) (fun cdv A outer s H vs Q E hr hg h => ?_)
  · obtain ⟨a, dx, c, s, past, att, B, R, P, w, qs, rfl, _⟩ := h; rfl
  · obtain ⟨a, dx, c, s, past, att, B, R, P, w, qs, rfl, ho, hs, hw, hv, hl, hp, k⟩ := h
    have nd := sc_Collector_merge.nd
    refine ⟨_, PSs.nox (pss_one (ps_ret (pe_mt cl_Collector h_Collector_do bj_Collector_do_2 (hr.mono (by decide)) hg pass0 (pv 0) (pa_cons (pe_tup (pa_cons pe_str (pa_cons (pv 1) pa_nil))) pa_nil)))), ?_⟩
    try dsimp only [cxOf]
    have est : ∀ a0 a1 : V, L2.start N_Collector_merge [a0, a1] = [some a0, some a1] := fun _ _ => rfl
    simp only [est]
    clear est
    tm_at "vp"
    refine w_colM ho (by decide +kernel) ?_
    tm_at "vp"
    rename_i e he
    have se := same_new he (u := HO.tup (actX w (.merge qs)))
    have ho1 := ho.same se
    exact ⟨a, dx, c, s, past, false, att, B, R, P, .ref e, .merge qs, rfl, ho1, rfl, hs, ⟨e, w, rfl, upd_same, sum_same se hw⟩, hv, hl, hp, fun v' H' B' R' P' b => k v' H' B' R' P' ((same_b se).trans b)⟩
theorem ok_Collector_restart {P : Program} {w : World} {K : PySem.W.Frag} {mg : Str → Option Value} {base : Heap} (fr : Fre mg) (cl_Collector : ClsF K mg "Collector" ["capacity", "begin", "rows", "past", "busy", "attempts", "__bool__"]) (D : DfdM K "Collector" "restart" "Collector.restart" s_Collector_restart [])
    (h_Collector_do : HasM P w K mg base CX0 10 "Collector" "do" "Collector.do" s_Collector_do [] ["self", "action"] (sp_Collector_do K)) : HasM P w K mg base CX0 11 "Collector" "restart" "Collector.restart" s_Collector_restart [] ["self", "summary"] (sp_Collector_restart K) := by
  refine D.has sc_Collector_restart (fun vs H Q E h => ?_) (fun cdv A outer s H vs Q E hr hg h => ?_)
  · obtain ⟨a, dx, c, s, past, att, B, R, P, w, qs, rfl, _⟩ := h; rfl
  · obtain ⟨a, dx, c, s, past, att, B, R, P, w, qs, rfl, ho, hs, hw, hv, hl, hp, k⟩ := h
    have nd := sc_Collector_restart.nd
    refine ⟨_, PSs.nox (pss_one (ps_ret (pe_mt cl_Collector h_Collector_do bj_Collector_do_2 (hr.mono (by decide)) hg pass0 (pv 0) (pa_cons (pe_tup (pa_cons pe_str (pa_cons (pv 1) pa_nil))) pa_nil)))), ?_⟩
    try dsimp only [cxOf]
    have est : ∀ a0 a1 : V, L2.start N_Collector_restart [a0, a1] = [some a0, some a1] := fun _ _ => rfl
    simp only [est]
    clear est
    tm_at "vp"
    refine w_colM ho (by decide +kernel) ?_
    tm_at "vp"
    rename_i e he
    have se := same_new he (u := HO.tup (actX w (.start qs)))
    have ho1 := ho.same se
    exact ⟨a, dx, c, s, past, false, att, B, R, P, .ref e, .start qs, rfl, ho1, rfl, hs, ⟨e, w, rfl, upd_same, sum_same se hw⟩, hv, hl, hp, fun v' H' B' R' P' b => k v' H' B' R' P' ((same_b se).trans b)⟩
theorem ok_Collector_do_all {P : Program} {w : World} {K : PySem.W.Frag} {mg : Str → Option Value} {base : Heap} (fr : Fre mg) (cl_Collector : ClsF K mg "Collector" ["capacity", "begin", "rows", "past", "busy", "attempts", "__bool__"]) (D : DfdMK K "Collector" "do_all" "Collector.do_all" s_Collector_do_all [("observer", .non)])
    (h_check_actions : Has P w K mg base CX0 2 "check_actions" s_check_actions ["actions"] (sp_check_actions K))
    (h_Collector_change : HasM P w K mg base CX0 6 "Collector" "change" "Collector.change" s_Collector_change [] ["self", "action"] (sp_Collector_change K))
    (h_Collector_current : HasM P w K mg base CX0 9 "Collector" "current" "Collector.current" s_Collector_current [] ["self"] (sp_Collector_current K)) : HasMK P w K mg base CX0 10 "Collector" "do_all" "Collector.do_all" s_Collector_do_all [("observer", .non)] ["self", "actions", "observer"] (sp_Collector_do_all K) := by
  refine D.has sc_Collector_do_all (fun vs H Q E h => ?_) (fun cdv A outer s H vs Q E hr hg h => ?_)
  · obtain ⟨a, dx, c, s, past, att, B, R, P, T, xs, acts, rfl, _⟩ := h; rfl
  · obtain ⟨a, dx, c, s, past, att, B, R, P, T, xs, acts, rfl, ho, hs, hT, hx, hv, hl, hp, k⟩ := h
    have nd := sc_Collector_do_all.nd
    refine ⟨_, PSs.nox (pss_cons (ps_if (pt_val (k_fld K (pv 0) rfl)) (pss_one ps_never) pss_nil)
      (pss_cons (ps_expr (pe_fn h_check_actions pb_check_actions (hr.mono (by decide)) hg rfl pass0 (pa_cons (pv 1) pa_nil)))
      (pss_cons (k_aufld K (pv 0) pe_int in_add)
      (pss_cons (ps_asg (pe_tup (pa_cons (k_fld K (pv 0) rfl) (pa_cons (k_fld K (pv 0) rfl) (pa_cons (k_fld K (pv 0) rfl) (pa_cons (pe_tup pa_nil) pa_nil))))) (k_gtup K rfl (pgs_cons (pg_name (i := 3) nd rfl (Or.inl rfl)) (pgs_cons (pg_name (i := 4) nd rfl (Or.inl rfl)) (pgs_cons (pg_name (i := 5) nd rfl (Or.inl rfl)) (pgs_cons (pg_name (i := 6) nd rfl (Or.inl rfl)) pgs_nil))))))
      (pss_cons (k_sfld K (pv 0) pe_bl rfl)
      (pss_cons (ps_fin (pss_cons (ps_for PassesOwn.never rfl (k_iEnumT K rfl fr.enumerate_ (pa_cons (pv 1) pa_nil)) (k_gtup K rfl (pgs_cons (pg_name (i := 7) nd rfl (Or.inl rfl)) (pgs_cons (pg_name (i := 8) nd rfl (Or.inl rfl)) pgs_nil)))
        (pss_cons (ps_expr (pe_mt cl_Collector h_Collector_change bj_Collector_change_2 (hr.mono (by decide)) hg pass0 (pv 0) (pa_cons (pv 8) pa_nil)))
      (pss_one (ps_if (pt_cmpR o_notN (pv 2) pe_non (nomark _)) (pss_one ps_never) pss_nil))))
      (pss_one (ps_set (i := 6) nd rfl (Or.inl rfl) pe_non))) (pss_cons (k_sfld K (pv 0) pe_bl rfl)
      (pss_one (ps_if (pt_cmpR o_notN (pv 6) pe_non (nomark _)) (pss_one ps_never) pss_nil))))
      (pss_one (ps_ret (pe_mt0 cl_Collector h_Collector_current bj_Collector_current_1 (hr.mono (by decide)) hg pass0 (pv 0)))))))))), ?_⟩
    try dsimp only [cxOf]
    have est : ∀ a0 a1 a2 : V, L2.start N_Collector_do_all [a0, a1, a2] = [some a0, some a1, some a2, none, none, none, none, none, none] := fun _ _ _ => rfl
    simp only [est]
    clear est
    have hxl := hx.len
    tm_at "vp"
    refine w_colBusy cl_Collector ho ?_
    refine w_bl ?_
    rw [if_neg (by decide)]
    tm_at "vp"
    refine ⟨T, xs, c, acts, rfl, hT, hx, by omega, fun H1 s1 => ?_⟩
    have ho1 := ho.same s1
    tm_at "vp"
    refine w_colAug cl_Collector ho1.ins rfl ?_
    have b2 := (same_b s1).trans (@sameB_upd a H1 (HO.ins (He.ga K "Collector") dx (colFl c B R P false (att + 1))))
    have i2 := @upd_same H1 a (HO.ins (He.ga K "Collector") dx (colFl c B R P false (att + 1)))
    generalize upd H1 a (HO.ins (He.ga K "Collector") dx (colFl c B R P false (att + 1))) = H2 at *
    tm_at "vp"
    refine w_fldc cl_Collector (by decide) i2 rfl ?_
    tm_at "vp"
    refine w_fldc cl_Collector (by decide) i2 rfl ?_
    tm_at "vp"
    refine w_fldc cl_Collector (by decide) i2 rfl ?_
    tm_at "vp"
    rename_i e1 he1 e2 he2
    have s3 := (same_new he1 (u := HO.tup [])).trans (same_new he2 (u := HO.tup [B, R, P, .ref e1]))
    have f3 := @upd_same (upd H2 e1 (HO.tup [])) e2 (HO.tup [B, R, P, .ref e1])
    generalize upd (upd H2 e1 (HO.tup [])) e2 (HO.tup [B, R, P, .ref e1]) = H3 at *
    refine w_gtup (SqT.of f3) rfl ?_
    have i3 := s3 _ _ i2
    have b3 := b2.trans (same_b s3)
    tm_at "vp"
    refine w_colSet cl_Collector (by decide) i3 ?_
    rw [show putF "busy" (V.bl true) (colFl c B R P false (att + 1)) = colFl c B R P true (att + 1) from rfl]
    have b4 := b3.trans (@sameB_upd a H3 (HO.ins (He.ga K "Collector") dx (colFl c B R P true (att + 1))))
    have i4 := @upd_same H3 a (HO.ins (He.ga K "Collector") dx (colFl c B R P true (att + 1)))
    generalize upd H3 a (HO.ins (He.ga K "Collector") dx (colFl c B R P true (att + 1))) = H4 at *
    have ho4 : ColO K H4 a c s past true (att + 1) dx B R P := ho.put b4 i4 ho.beg ho.rows ho.past
    clear b2 i2 s3 f3 i3 b3 i4 s1 ho1 he1 he2
    have hT4 := sqt_c (ho.ch b4) hT
    tm_at "vp"
    unfold tFin
    simp only [List.set_cons_zero, List.set_cons_succ]
    tm_at "vp"
    refine w_onE hT4 ?_
    refine for_go (walk_enumT (xs := xs)) (fun i σ H' => ∃ (u7 u8 : Option V) (B' R' P' : V), σ = [some (.ref a), some (.ref T), some .non, some B, some R, some P, some (.ref e1), u7, u8] ∧ SameB a H4 H' ∧ ColO K H' a c (runS s (acts.take i)) (past ++ histA s (acts.take i)) true (att + 1) dx B' R' P') ⟨none, none, B, R, P, rfl, fun _ _ _ e => e, by rw [List.take_zero]; show ColO K H4 a c s (past ++ []) true (att + 1) dx B R P; rw [List.append_nil]; exact ho4⟩ (fun i σ H' _ ⟨_, _, _, _, _, _, sb, _⟩ => sqt_c (ho4.ch sb) hT4) ?_ ?_
    rotate_left
    · rintro σ Hz ⟨u7, u8, B', R', P', rfl, sz, hz⟩
      rw [hxl, List.take_length] at hz
      dsimp only
      tm_at "vp"
      refine w_colSet cl_Collector (by decide) hz.ins ?_
      rw [show putF "busy" (V.bl false) (colFl c B' R' P' true (att + 1)) = colFl c B' R' P' false (att + 1) from rfl]
      have b5 := @sameB_upd a Hz (HO.ins (He.ga K "Collector") dx (colFl c B' R' P' false (att + 1)))
      have i5 := @upd_same Hz a (HO.ins (He.ga K "Collector") dx (colFl c B' R' P' false (att + 1)))
      generalize upd Hz a (HO.ins (He.ga K "Collector") dx (colFl c B' R' P' false (att + 1))) = H5 at *
      have ho5 : ColO K H5 a c (runS s acts) (past ++ histA s acts) false (att + 1) dx B' R' P' := hz.put b5 i5 hz.beg hz.rows hz.past
      tm_at "vp"
      refine w_colM ho5 (by decide +kernel) ?_
      tm_at "vp"
      exact ⟨a, dx, c, runS s acts, past ++ histA s acts, false, att + 1, B', R', P', rfl, ho5, actsV_ok acts hs hv, actsV_len acts hl hv, fun v' H' s' h1 h2 h3 => k v' H' B' R' P' ((b4.trans (sz.trans b5)).trans (same_b s')) (ho5.same s') h1 h2 h3⟩
    rintro i y σ Ha Hb hi ⟨u7, u8, B', R', P', rfl, sa, hoa⟩ ⟨T2, y1, x1, rfl, hT2, rfl, ea1, ea2⟩
    cases (Option.some.inj ea1)
    have s2 := same_new hT2 (u := HO.tup [.int (i : Nat), x1])
    have f2 := @upd_same Ha T2 (HO.tup [.int (i : Nat), x1])
    generalize upd Ha T2 (HO.tup [.int (i : Nat), x1]) = H6 at *
    refine w_gtup (SqT.of f2) rfl ?_
    simp only [List.set_cons_zero, List.set_cons_succ]
    tm_at "vp"
    obtain ⟨act, ea, hact⟩ := hx.get ea2
    obtain ⟨v1, v2⟩ := actsV_at hv ea
    have ho6 := hoa.same s2
    have c6 := (ho.ch b4).trans ((ho4.ch sa).trans (SameC.of s2))
    refine w_colM ho6 (by decide +kernel) ?_
    tm_at "vp"
    have hll : (past ++ histA s (acts.take i)).length ≤ 5000 := by
      rw [List.length_append, histA_len, List.length_take]
      omega
    refine ⟨a, dx, c, _, _, true, att + 1, B', R', P', x1, act, rfl, ho6, deedO_c c6 hact, v1, v2, hll, fun H7 B7 R7 P7 b7 ho7 => ?_⟩
    tm_at "vp"
    refine ⟨_, _, B7, R7, P7, rfl, (sa.trans (same_b s2)).trans b7, ?_⟩
    rw [take_snoc ea, runS_snoc, histA_snoc, ← List.append_assoc]
    exact ho7
theorem ok_Collector_preview {P : Program} {w : World} {K : PySem.W.Frag} {mg : Str → Option Value} {base : Heap} (fr : Fre mg) (cl_Collector : ClsF K mg "Collector" ["capacity", "begin", "rows", "past", "busy", "attempts", "__bool__"]) (D : DfdM K "Collector" "preview" "Collector.preview" s_Collector_preview [])
    (h_check_actions : Has P w K mg base CX0 2 "check_actions" s_check_actions ["actions"] (sp_check_actions K))
    (h_state_after : Has P w K mg base CX0 5 "state_after" s_state_after ["capacity", "state", "action"] (sp_state_after K))
    (h_current_of : Has P w K mg base CX0 8 "current_of" s_current_of ["begin", "rows"] (sp_current_of K)) : HasM P w K mg base CX0 9 "Collector" "preview" "Collector.preview" s_Collector_preview [] ["self", "actions"] (sp_Collector_preview K) := by
  refine D.has sc_Collector_preview (fun vs H Q E h => ?_) (fun cdv A outer s H vs Q E hr hg h => ?_)
  · obtain ⟨a, dx, c, s, past, busy, att, B, R, P, T, xs, acts, rfl, _⟩ := h; rfl
  · obtain ⟨a, dx, c, s, past, busy, att, B, R, P, T, xs, acts, rfl, ho, hs, hT, hx, hv, hl, hp, k⟩ := h
    have nd := sc_Collector_preview.nd
    refine ⟨_, PSs.nox (pss_cons (ps_expr (pe_fn h_check_actions pb_check_actions (hr.mono (by decide)) hg rfl pass0 (pa_cons (pv 1) pa_nil)))
      (pss_cons (ps_set (i := 2) nd rfl (Or.inl rfl) (pe_tup (pa_cons (k_fld K (pv 0) rfl) (pa_cons (k_fld K (pv 0) rfl) pa_nil))))
      (pss_cons (ps_for PassesOwn.never rfl (k_iTup K (pv 1)) (pg_name (i := 3) nd rfl (Or.inl rfl))
        (pss_one (ps_set (i := 2) nd rfl (Or.inl rfl) (pe_fn h_state_after pb_state_after (hr.mono (by decide)) hg rfl pass0 (pa_cons (k_fld K (pv 0) rfl) (pa_cons (pv 2) (pa_cons (pv 3) pa_nil)))))))
      (pss_one (ps_ret (pe_fn h_current_of pb_current_of (hr.mono (by decide)) hg rfl pass0 (pa_cons (pe_ix (k_ixT K) (pv 2) pe_int (fun _ _ => rfl)) (pa_cons (pe_ix (k_ixT K) (pv 2) pe_int (fun _ _ => rfl)) pa_nil)))))))), ?_⟩
    try dsimp only [cxOf]
    have est : ∀ a0 a1 : V, L2.start N_Collector_preview [a0, a1] = [some a0, some a1, none, none] := fun _ _ => rfl
    simp only [est]
    clear est
    have hxl := hx.len
    tm_at "vp"
    refine ⟨T, xs, c, acts, rfl, hT, hx, by omega, fun H1 s1 => ?_⟩
    have ho1 := ho.same s1
    tm_at "vp"
    refine w_colBeg cl_Collector ho1 ?_
    tm_at "vp"
    refine w_colRows cl_Collector ho1 ?_
    tm_at "vp"
    rename_i S hS
    have s2 := s1.trans (same_new hS (u := HO.tup [B, R]))
    have hS1 := @upd_same H1 S (HO.tup [B, R])
    generalize upd H1 S (HO.tup [B, R]) = H2 at *
    have ho2 := ho.same s2
    have hst : StaO K H2 c (.ref S) s := ⟨S, B, R, rfl, SqT.of hS1, ho2.beg, ho2.rows⟩
    have hT2 := sqt_same s2 hT
    refine w_onT hT2 ?_
    refine for_go (walk_tup (xs := xs)) (fun i σ H' => ∃ (u : Option V) (sv : V), σ = [some (.ref a), some (.ref T), some sv, u] ∧ Same H2 H' ∧ StaO K H' c sv (runS s (acts.take i))) ⟨_, _, rfl, Same.refl _, hst⟩ (fun i σ H' _ ⟨_, _, _, s, _⟩ => sqt_same s hT2) ?_ ?_
    rotate_left
    · rintro σ Hz ⟨u, sv, rfl, sz, hsz⟩
      rw [hxl, List.take_length] at hsz
      obtain ⟨S3, B3, R3, rfl, hS3, hB3, hR3⟩ := hsz
      dsimp only
      tm_at "vp"
      refine w_ixT hS3 (v := B3) rfl ?_
      tm_at "vp"
      refine w_ixT hS3 (v := R3) rfl ?_
      tm_at "vp"
      exact ⟨c, B3, R3, _, rfl, hB3, hR3, actsV_ok acts hs hv, actsV_len acts hl hv, fun v' H' s' h1 h2 h3 => k v' H' (s2.trans (sz.trans s')) h1 h2 h3⟩
    rintro i y σ Ha Hb hi ⟨u, sv, rfl, sa, hsa⟩ ⟨rfl, hy⟩
    obtain ⟨act, ea, hact⟩ := hx.get hy
    obtain ⟨v1, v2⟩ := actsV_at hv ea
    have hoa := ho2.same sa
    simp only [List.set_cons_zero, List.set_cons_succ]
    tm_at "vp"
    refine w_colCap cl_Collector hoa ?_
    tm_at "vp"
    refine ⟨c, sv, y, _, act, rfl, hsa, deedO_c (SameC.of (s2.trans sa)) hact, v1, v2, fun v' H' s' hst' => ?_⟩
    tm_at "vp"
    refine ⟨_, _, rfl, sa.trans s', ?_⟩
    rw [take_snoc ea, runS_snoc]
    exact hst'
theorem ok_Collector_undo {P : Program} {w : World} {K : PySem.W.Frag} {mg : Str → Option Value} {base : Heap} (fr : Fre mg) (cl_Collector : ClsF K mg "Collector" ["capacity", "begin", "rows", "past", "busy", "attempts", "__bool__"]) (D : DfdM K "Collector" "undo" "Collector.undo" s_Collector_undo [])
    (h_Collector_current : HasM P w K mg base CX0 9 "Collector" "current" "Collector.current" s_Collector_current [] ["self"] (sp_Collector_current K)) : HasM P w K mg base CX0 10 "Collector" "undo" "Collector.undo" s_Collector_undo [] ["self"] (sp_Collector_undo K) := by
  refine D.has sc_Collector_undo (fun vs H Q E h => ?_) (fun cdv A outer s H vs Q E hr hg h => ?_)
  · obtain ⟨a, dx, c, s, past, act, s0, att, B, R, P, rfl, _⟩ := h; rfl
  · obtain ⟨a, dx, c, s, past, act, s0, att, B, R, P, rfl, ho, hs, hl, hp, k⟩ := h
    have nd := sc_Collector_undo.nd
    refine ⟨_, PSs.nox (pss_cons (ps_if (pt_val (k_fld K (pv 0) rfl)) (pss_one ps_never) pss_nil)
      (pss_cons (ps_if (pt_cmpR (k_eqTE K (u66 hr)) (k_fld K (pv 0) rfl) (pe_tup pa_nil) (nomark _)) (pss_one ps_never) pss_nil)
      (pss_cons (ps_asg (k_fld K (pv 0) rfl) (k_gstar K (n := 2) (i := 0) rfl (pgs_star (pg_name (i := 1) nd rfl (Or.inl rfl)) (pgs_cons (k_gtup K rfl (pgs_cons (pg_name (i := 2) nd rfl (Or.inl rfl)) (pgs_cons (pg_name (i := 3) nd rfl (Or.inl rfl)) pgs_nil))) pgs_nil))))
      (pss_cons (ps_asg (pv 3) (k_gtup K rfl (pgs_cons (k_gfld K (pv 0)) (pgs_cons (k_gfld K (pv 0)) pgs_nil))))
      (pss_cons (k_sfld K (pv 0) (pe_callTy (k_tuple K) rfl fr.tuple_ (by decide +kernel) (pa_cons (pv 1) pa_nil)) rfl)
      (pss_one (ps_ret (pe_mt0 cl_Collector h_Collector_current bj_Collector_current_1 (hr.mono (by decide)) hg pass0 (pv 0))))))))), ?_⟩
    try dsimp only [cxOf]
    have est : ∀ a0 : V, L2.start N_Collector_undo [a0] = [some a0, none, none, none] := fun _ => rfl
    simp only [est]
    clear est
    have hpast := ho.past
    obtain ⟨T0, ps, rfl, hT0, hps⟩ := hpast
    have hpl := hps.len
    rw [List.length_append] at hpl
    tm_at "vp"
    refine w_colBusy cl_Collector ho ?_
    refine w_bl ?_
    rw [if_neg (by decide)]
    tm_at "vp"
    refine w_colPast cl_Collector ho ?_
    tm_at "vp"
    rename_i e0 he0
    have s1 := same_new he0 (u := HO.tup [])
    refine w_eqTE (sqt_same s1 hT0) (SqT.of upd_same) ?_
    generalize upd H e0 (HO.tup []) = H1 at *
    obtain ⟨qs, en, rfl, hq, hen⟩ := hps.snoc_inv
    have hen1 := entO_c (K := K) (c := c) (SameC.of s1) hen
    obtain ⟨E1, av, sv, rfl, hE1, hav, hsv⟩ := hen1
    rw [show (qs ++ [V.ref E1]).isEmpty = false by cases qs <;> rfl]
    refine w_bl ?_
    rw [if_neg (by decide)]
    have ho1 := ho.same s1
    have hT1 := sqt_same s1 hT0
    have hql := hq.len
    tm_at "vp"
    refine w_colPast cl_Collector ho1 ?_
    tm_at "vp"
    refine w_gstar hT1 (by rw [List.length_append]; show 2 ≤ qs.length + 1 + 1; omega) (by rw [List.length_append]; show qs.length + 1 ≤ 100000; omega) fun p hp0 => ?_
    have e1 : ((qs ++ [V.ref E1]).drop 0).take ((qs ++ [V.ref E1]).length + 1 - 2) = qs := by
      rw [List.drop_zero, List.length_append, show qs.length + [V.ref E1].length + 1 - 2 = qs.length from rfl, List.take_left]
    have e2 : (qs ++ [V.ref E1]).take 0 ++ [V.ref p] ++ (qs ++ [V.ref E1]).drop ((qs ++ [V.ref E1]).length - (2 - 1 - 0)) = [.ref p, .ref E1] := by
      rw [List.length_append, show qs.length + [V.ref E1].length - (2 - 1 - 0) = qs.length from rfl, List.drop_left]
      rfl
    rw [e1, e2]
    have s2 := same_new hp0 (u := HO.lst qs)
    have f2 := @upd_same H1 p (HO.lst qs)
    generalize upd H1 p (HO.lst qs) = H2 at *
    have s12 := s1.trans s2
    tm_at "vp"
    refine w_gtup (sqt_same s2 hE1) rfl ?_
    obtain ⟨S, B1, R1, rfl, hS, hB1, hR1⟩ := staO_c (K := K) (c := c) (SameC.of s2) hsv
    have ho2 := ho.same s12
    tm_at "vp"
    refine w_gtup hS rfl ?_
    refine ⟨B1, [R1], rfl, w_gfld ?_⟩
    tm_at "vp"
    refine w_colSet cl_Collector (by decide) ho2.ins ?_
    rw [show putF "begin" B1 (colFl c B R (.ref T0) false att) = colFl c B1 R (.ref T0) false att from rfl]
    have b3 := (same_b s12).trans (@sameB_upd a H2 (HO.ins (He.ga K "Collector") dx (colFl c B1 R (.ref T0) false att)))
    have c3 := SameC.ofB (@sameB_upd a H2 (HO.ins (He.ga K "Collector") dx (colFl c B1 R (.ref T0) false att))) ho2.ins rfl
    have i3 := @upd_same H2 a (HO.ins (He.ga K "Collector") dx (colFl c B1 R (.ref T0) false att))
    generalize upd H2 a (HO.ins (He.ga K "Collector") dx (colFl c B1 R (.ref T0) false att)) = H3 at *
    refine ⟨R1, [], rfl, w_gfld ?_⟩
    tm_at "vp"
    refine w_colSet cl_Collector (by decide) i3 ?_
    rw [show putF "rows" R1 (colFl c B1 R (.ref T0) false att) = colFl c B1 R1 (.ref T0) false att from rfl]
    have c4 := c3.trans (SameC.ofB (@sameB_upd a H3 (HO.ins (He.ga K "Collector") dx (colFl c B1 R1 (.ref T0) false att))) i3 rfl)
    have b4 := b3.trans (@sameB_upd a H3 (HO.ins (He.ga K "Collector") dx (colFl c B1 R1 (.ref T0) false att)))
    have i4 := @upd_same H3 a (HO.ins (He.ga K "Collector") dx (colFl c B1 R1 (.ref T0) false att))
    generalize upd H3 a (HO.ins (He.ga K "Collector") dx (colFl c B1 R1 (.ref T0) false att)) = H4 at *
    tm_at "vp"
    refine w_tupL (SqL.of (lst_c c4 f2)) fun D hD => ?_
    have s5 := same_new hD (u := HO.tup qs)
    have i5 := s5 _ _ i4
    have f5 := @upd_same H4 D (HO.tup qs)
    generalize upd H4 D (HO.tup qs) = H5 at *
    tm_at "vp"
    refine w_colSet cl_Collector (by decide) i5 ?_
    rw [show putF "past" (V.ref D) (colFl c B1 R1 (.ref T0) false att) = colFl c B1 R1 (.ref D) false att from rfl]
    have c6 := SameC.ofB (@sameB_upd a H5 (HO.ins (He.ga K "Collector") dx (colFl c B1 R1 (.ref D) false att))) i5 rfl
    have b6 := (b4.trans (same_b s5)).trans (@sameB_upd a H5 (HO.ins (He.ga K "Collector") dx (colFl c B1 R1 (.ref D) false att)))
    have i6 := @upd_same H5 a (HO.ins (He.ga K "Collector") dx (colFl c B1 R1 (.ref D) false att))
    generalize upd H5 a (HO.ins (He.ga K "Collector") dx (colFl c B1 R1 (.ref D) false att)) = H6 at *
    have c26 := c4.trans ((SameC.of s5).trans c6)
    have c06 := SameC.ofB b6 ho.ins rfl
    have ho6 : ColO K H6 a c s0 past false att dx B1 R1 (.ref D) := ⟨i6, sum_c c26 hB1, rowsO_c c26 hR1, ⟨D, qs, rfl, SqT.of (tup_c c6 f5), hq.imp fun _ _ => entO_c c06⟩⟩
    tm_at "vp"
    refine w_colM ho6 (by decide +kernel) ?_
    tm_at "vp"
    exact ⟨a, dx, c, s0, past, false, att, B1, R1, .ref D, rfl, ho6, hs, hl, fun v' H' s' h1 h2 h3 => k v' H' B1 R1 (.ref D) (b6.trans (same_b s')) (ho6.same s') h1 h2 h3⟩
theorem ok__law_cell {P : Program} {w : World} {K : PySem.W.Frag} {mg : Str → Option Value} {base : Heap} (fr : Fre mg) (D : Dfd K mg "_law_cell" s__law_cell) : Has P w K mg base CX0 1 "_law_cell" s__law_cell ["_law_script", "_law_k"] (sp__law_cell K) := by
  refine D.has sc__law_cell (fun vs H Q E h => ?_) (fun cdv A outer s H vs Q E hr hg h => ?_)
  · obtain ⟨a, ns, j, rfl, _⟩ := h; rfl
  · obtain ⟨a, ns, j, rfl, hs, hn, h0, h1, k⟩ := h
    have nd := sc__law_cell.nd
    refine ⟨_, PSs.nox (pss_cons (ps_if (pt_cmpR op_lt (pv 1) (pe_callB (k_len K) rfl fr.len_ (by decide +kernel) (pa_cons (pv 0) pa_nil)) (nomark _)) (pss_one (ps_ret (pe_ix (k_ixL K) (pv 0) (pv 1) (fun _ _ => rfl)))) pss_nil)
      (pss_cons (ps_set (i := 2) nd rfl (Or.inl rfl) (pe_op op_mod (pe_op op_mul pe_int (pe_op op_add (pe_op op_add (pe_op op_mul (pv 1) (pv 1)) (pe_op op_mul pe_int (pv 1))) pe_int)) pe_int))
      (pss_cons (ps_for PassesOwn.never rfl (k_iList K (pe_slice (k_slL K) (pv 0) po_none (po_some pe_int))) (pg_name (i := 3) nd rfl (Or.inl rfl))
        (pss_one (ps_set (i := 2) nd rfl (Or.inl rfl) (pe_op op_mod (pe_op op_add (pe_op op_mul (pv 2) pe_int) (pv 3)) pe_int))))
      (pss_one (ps_ret (pv 2)))))), ?_⟩
    try dsimp only [cxOf]
    tm_at "wp"
    refine w_lenL hs ?_
    tm_at "wp"
    refine w_ited (fun h2 => ?_) (fun h2 => ?_)
    · tm_at "wp"
      rw [List.length_map] at h2
      have h3 : j.toNat < ns.length := by omega
      refine w_ixL hs (v := .int ns[j.toNat]) ?_ ?_
      · exact at_of (j := j.toNat) (by omega) (by simp [h3])
      · exact k _ _ (Same.refl _)
    · tm_at "wp"
      refine w_slL hs ?_
      intro p hp
      refine w_onL (SqL.of upd_same) ?_
      have s0 : Same H (upd H p (.lst (cutV (ns.map V.int) none (some 3)))) := same_new hp
      refine for_go (walk_list (xs := cutV (ns.map V.int) none (some 3))) (fun i σ H' => ∃ z u, σ = [some (.ref a), some (.int j), some (.int z), u] ∧ 0 ≤ z ∧ z < 1000000007 ∧ H' = upd H p (.lst (cutV (ns.map V.int) none (some 3)))) ⟨_, none, rfl, Int.emod_nonneg _ (by decide), Int.emod_lt_of_pos _ (by decide), rfl⟩ (fun i σ H' _ ⟨_, _, _, _, _, e⟩ => by rw [e]; exact SqL.of upd_same) ?_ ?_
      · rintro i v σ H1 H2 hi ⟨z, u, rfl, z0, z1, rfl⟩ ⟨rfl, hy⟩
        obtain ⟨m, rfl⟩ : ∃ m, v = .int m := by
          have hm := List.mem_of_getElem? hy
          unfold cutV at hm
          have hm2 := List.mem_of_mem_drop (List.mem_of_mem_take hm)
          obtain ⟨m, _, e⟩ := List.mem_map.mp hm2
          exact ⟨m, e.symm⟩
        tm_at "wp"
        exact ⟨_, _, rfl, Int.emod_nonneg _ (by decide), Int.emod_lt_of_pos _ (by decide), rfl⟩
      · rintro σ H1 ⟨z, u, rfl, z0, z1, rfl⟩
        tm_at "wp"
        exact k _ _ s0
theorem okc__law_pool {P : Program} {w : World} {K : PySem.W.Frag} {mg : Str → Option Value} {base : Heap} (fr : Fre mg) (D : Dfd K mg "_law_pool" s__law_pool) : Has P w K mg base CX0 1 "_law_pool" s__law_pool ["_law_cell_here"] (spc__law_pool K) := by
  refine D.has sc__law_pool (fun vs H Q E h => ?_) (fun cdv A outer s H vs Q E hr hg h => ?_)
  · obtain ⟨n, rfl, _⟩ := h; rfl
  · obtain ⟨n, rfl, k⟩ := h
    have nd := sc__law_pool.nd
    refine ⟨_, PSs.nox (pss_cons (ps_set (i := 1) nd rfl (Or.inl rfl) pe_int)
      (pss_cons (ps_if (PW.pt (pw_or (pt_cmpR op_lt (pv 0) pe_int (nomark _)) (pw_or1 (pt_cmpR op_ge (pv 0) (pe_op op_pow pe_int pe_int) (nomark _))))) (pss_one (ps_set (i := 1) nd rfl (Or.inl rfl) (pe_callB c_abs rfl fr.abs_ (by decide +kernel) (pa_cons (pv 0) pa_nil)))) pss_nil)
      (pss_one (ps_ret (pe_lst (pa_cons (pe_op op_mod (pv 0) pe_int) (pa_cons (pv 1) (pa_cons pe_int pa_nil)))))))), ?_⟩
    try dsimp only [cxOf]
    have fin : ∀ (d : Int) (H' : Hp), 0 ≤ d → Same H H' → ∀ p, H' p = none → Q (.ref p) (upd H' p (.lst [.int (n % 1000000007), .int d, .int 0])) := fun d H' hd s p hp =>
      k p _ _ _ _ (s.free hp) (same_step s hp) upd_same ⟨Int.emod_nonneg _ (by decide), Int.emod_lt_of_pos _ (by decide), hd, Int.le_refl 0⟩
    tm_at "wp"
    refine w_ited (fun h1 => ?_) (fun h1 => ?_)
    · tm_at "wp"
      rename_i hp
      exact fin _ _ (by split <;> omega) (Same.refl _) _ hp
    · tm_at "wp"
      refine w_ited (fun h2 => ?_) (fun h2 => ?_)
      · tm_at "wp"
        rename_i hp
        exact fin _ _ (by split <;> omega) (Same.refl _) _ hp
      · tm_at "wp"
        rename_i hp
        exact fin _ _ (Int.le_refl 0) (Same.refl _) _ hp
theorem ok__law_pool {P : Program} {w : World} {K : PySem.W.Frag} {mg : Str → Option Value} {base : Heap} (fr : Fre mg) (D : Dfd K mg "_law_pool" s__law_pool) : Has P w K mg base CX0 1 "_law_pool" s__law_pool ["_law_cell_here"] (sp__law_pool K) := has_pool (okc__law_pool fr D) rfl
theorem okc__law_draw {P : Program} {w : World} {K : PySem.W.Frag} {mg : Str → Option Value} {base : Heap} (fr : Fre mg) (D : Dfd K mg "_law_draw" s__law_draw) : Has P w K mg base CX0 1 "_law_draw" s__law_draw ["_law_pool_here", "_law_many"] (spc__law_draw K) := by
  refine D.has sc__law_draw (fun vs H Q E h => ?_) (fun cdv A outer s H vs Q E hr hg h => ?_)
  · obtain ⟨p, s0, d0, c0, m, rfl, _⟩ := h; rfl
  · obtain ⟨p, s0, d0, c0, m, rfl, hp, hv, m0, m1, k⟩ := h
    have nd := sc__law_draw.nd
    refine ⟨_, PSs.nox (pss_cons (ps_asg (pe_op op_add (pe_ix (k_ixL K) (pv 0) pe_int (fun _ _ => rfl)) pe_int) (pg_sub (pv 0) pe_int set_list))
      (pss_cons (ps_set (i := 2) nd rfl (Or.inl rfl) (pe_ix (k_ixL K) (pv 0) pe_int (fun _ _ => rfl)))
      (pss_cons (ps_asg (pe_op op_mod (pe_callTy c_int1 rfl fr.int_ (by decide +kernel) (pa_cons (pe_op op_add (pe_op op_add (pe_op op_mul (pv 2) (pe_op op_add (pe_op op_mod (pe_callTy c_int1 rfl fr.int_ (by decide +kernel) (pa_cons (pv 2) pa_nil)) pe_int) pe_int)) (pe_op op_mul pe_int (pe_ix (k_ixL K) (pv 0) pe_int (fun _ _ => rfl)))) pe_int) pa_nil)) pe_int) (pg_sub (pv 0) pe_int set_list))
      (pss_cons (ps_if (pt_cmpR op_gt (pe_ix (k_ixL K) (pv 0) pe_int (fun _ _ => rfl)) pe_int (nomark _)) (pss_cons (ps_asg (pe_callB c_divmod rfl fr.divmod_ (by decide +kernel) (pa_cons (pe_ix (k_ixL K) (pv 0) pe_int (fun _ _ => rfl)) (pa_cons (pv 1) pa_nil))) (k_gtup K rfl (pgs_cons (pg_sub (pv 0) pe_int set_list) (pgs_cons (pg_name (i := 3) nd rfl (Or.inl rfl)) pgs_nil))))
      (pss_one (ps_ret (pv 3)))) pss_nil)
      (pss_one (ps_ret (pe_op op_mod (pe_op op_fdiv (pe_ix (k_ixL K) (pv 0) pe_int (fun _ _ => rfl)) pe_int) (pv 1)))))))), ?_⟩
    try dsimp only [cxOf]
    obtain ⟨v0, v1, v2, v3⟩ := hv
    tm_at "wp"
    refine w_ixL (SqL.of hp) (v := .int c0) rfl ?_
    tm_at "wp"
    refine w_setL hp (j := 2) rfl ?_
    tm_at "wp"
    refine w_ixL (SqL.of upd_same) (v := .int s0) rfl ?_
    tm_at "wp"
    refine w_ixL (SqL.of upd_same) (v := .int (c0 + 1)) rfl ?_
    tm_at "wp"
    refine w_setL upd_same (j := 0) rfl ?_
    tm_at "wp"
    generalize hs1 : (s0 * (s0 % 46007 + 20011) + 60013 * (c0 + 1) + 5) % 1000000007 = s1
    have b0 : 0 ≤ s1 := by rw [← hs1]; exact Int.emod_nonneg _ (by decide)
    have b1 : s1 < 1000000007 := by rw [← hs1]; exact Int.emod_lt_of_pos _ (by decide)
    rw [upd_upd]
    have sb : ∀ l : HO, SameB p H (upd H p l) := fun l => SameB.upd
    refine w_ixL (SqL.of upd_same) (v := .int d0) rfl ?_
    tm_at "wp"
    refine w_ited (fun h1 => ?_) (fun h1 => ?_)
    · tm_at "wp"
      refine w_ixL (SqL.of upd_same) (v := .int d0) rfl ?_
      tm_at "wp"
      refine w_divW (divp200 m0 m1) ?_
      intro q hq
      have npq : p ≠ q := ne_of_none (upd_same (H := H) (a := p)) hq
      refine w_gtup (SqT.of upd_same) rfl ?_
      tm_at "wp"
      refine w_setL ((upd_ne npq).trans upd_same) (j := 1) rfl ?_
      tm_at "wp"
      refine k _ s1 (d0 / m) (c0 + 1) _ (Int.emod_nonneg _ (by omega)) (Int.emod_lt_of_pos _ m0) (fun b o nb e => ?_) upd_same ⟨b0, b1, Int.ediv_nonneg v2 (by omega), by omega⟩
      rw [upd_ne nb]
      have e2 := sb (.lst [.int s1, .int d0, .int (c0 + 1)]) b o nb e
      exact hp_new e2 hq
    · tm_at "wp"
      refine w_ixL (SqL.of upd_same) (v := .int s1) rfl ?_
      tm_at "wp"
      refine k _ s1 d0 (c0 + 1) _ (Int.emod_nonneg _ (by omega)) (Int.emod_lt_of_pos _ m0) (sb _) upd_same ⟨b0, b1, v2, by omega⟩
theorem ok__law_draw {P : Program} {w : World} {K : PySem.W.Frag} {mg : Str → Option Value} {base : Heap} (fr : Fre mg) (D : Dfd K mg "_law_draw" s__law_draw) : Has P w K mg base CX0 1 "_law_draw" s__law_draw ["_law_pool_here", "_law_many"] (sp__law_draw K) := has_draw (okc__law_draw fr D) rfl
theorem ok__law_words {P : Program} {w : World} {K : PySem.W.Frag} {mg : Str → Option Value} {base : Heap} (fr : Fre mg) (D : Dfd K mg "_law_words" s__law_words)
    (h__law_draw : Has P w K mg base CX0 1 "_law_draw" s__law_draw ["_law_pool_here", "_law_many"] (sp__law_draw K)) : Has P w K mg base CX0 2 "_law_words" s__law_words ["_law_pool_here", "_law_many"] (sp__law_words K) := by
  refine D.has sc__law_words (fun vs H Q E h => ?_) (fun cdv A outer s H vs Q E hr hg h => ?_)
  · obtain ⟨p, m, rfl, _⟩ := h; rfl
  · obtain ⟨p, m, rfl, hp, m0, m1, k⟩ := h
    have nd := sc__law_words.nd
    refine ⟨_, PSs.nox (pss_cons (ps_set (i := 2) nd rfl (Or.inr rfl) pe_str)
      (pss_cons (ps_set (i := 3) nd rfl (Or.inr rfl) (pe_lst (pa_cons pe_str (pa_cons pe_str (pa_cons pe_str (pa_cons pe_str (pa_cons pe_str (pa_cons pe_str (pa_cons pe_str (pa_cons pe_str (pa_cons pe_str (pa_cons pe_str (pa_cons pe_str (pa_cons pe_str (pa_cons pe_str (pa_cons pe_str (pa_cons pe_str pa_nil)))))))))))))))))
      (pss_cons (ps_asg (pe_tup (pa_cons (pe_fn h__law_draw pb__law_draw (hr.mono (by decide)) hg rfl pass0 (pa_cons (pv 0) (pa_cons pe_int pa_nil))) (pa_cons (pe_fn h__law_draw pb__law_draw (hr.mono (by decide)) hg rfl pass0 (pa_cons (pv 0) (pa_cons pe_int pa_nil))) pa_nil))) (k_gtup K rfl (pgs_cons (pg_name (i := 4) nd rfl (Or.inl rfl)) (pgs_cons (pg_name (i := 5) nd rfl (Or.inr rfl)) pgs_nil))))
      (pss_cons (ps_if (pt_cmpR op_eq (pv 4) pe_int (nomark _)) (pss_one (ps_ret (pe_lc (own := [("_law_k", 6)]) (g := gName 6) (tt := tYes) rfl nd (pi_range1 rfl fr.range_ (pa_cons (pv 1) pa_nil)) (blkOk_by (own := [("_law_k", 6)]) (N := N__law_words) (sc := defScope s__law_words) (by decide +kernel)) (fun _ _ _ _ _ => (pg_name (i := 6) nd rfl (Or.inl rfl))) (fun _ _ _ _ _ => pts_nil) (fun _ _ _ _ _ => (pe_ix (k_ixL K) (pv 3) (pe_op op_mod (pe_op op_add (pv 5) (pe_op op_mul pe_int (pv 6))) pe_int) (fun _ _ => rfl)))))) pss_nil)
      (pss_cons (ps_if (pt_cmpR op_eq (pv 4) pe_int (nomark _)) (pss_one (ps_ret (pe_lc (own := [("_law_k", 6)]) (g := gName 6) (tt := tYes) rfl nd (pi_range1 rfl fr.range_ (pa_cons (pv 1) pa_nil)) (blkOk_by (own := [("_law_k", 6)]) (N := N__law_words) (sc := defScope s__law_words) (by decide +kernel)) (fun _ _ _ _ _ => (pg_name (i := 6) nd rfl (Or.inl rfl))) (fun _ _ _ _ _ => pts_nil) (fun _ _ _ _ _ => (pe_op o_mulS (pe_ix ix_str (pv 2) (pe_op op_mod (pe_op op_add (pv 5) (pe_op op_mul pe_int (pv 6))) pe_int) (fun _ _ => rfl)) (pe_op op_add pe_int (pe_op op_mod (pv 6) pe_int))))))) pss_nil)
      (pss_cons (ps_set (i := 7) nd rfl (Or.inr rfl) (k_join K pe_str (pe_lc (own := [("_law_k", 6)]) (g := gName 6) (tt := tYes) rfl nd (pi_range1 rfl fr.range_ (pa_cons (pe_fn h__law_draw pb__law_draw (hr.mono (by decide)) hg rfl pass0 (pa_cons (pv 0) (pa_cons pe_int pa_nil))) pa_nil)) (blkOk_by (own := [("_law_k", 6)]) (N := N__law_words) (sc := defScope s__law_words) (by decide +kernel)) (fun _ _ _ _ _ => (pg_name (i := 6) nd rfl (Or.inl rfl))) (fun _ _ _ _ _ => pts_nil) (fun _ _ _ _ _ => (pe_ix ix_str (pv 2) (pe_fn h__law_draw pb__law_draw (hr.mono (by decide)) hg rfl pass0 (pa_cons (pv 0) (pa_cons pe_int pa_nil))) (fun _ _ => rfl))))))
      (pss_cons (ps_set (i := 8) nd rfl (Or.inr rfl) (pe_fn h__law_draw pb__law_draw (hr.mono (by decide)) hg rfl pass0 (pa_cons (pv 0) (pa_cons (pe_op op_add (pe_callB (k_len K) rfl fr.len_ (by decide +kernel) (pa_cons (pv 7) pa_nil)) pe_int) pa_nil))))
      (pss_one (ps_ret (pe_lc (own := [("_law_k", 6)]) (g := gName 6) (tt := tYes) rfl nd (pi_range1 rfl fr.range_ (pa_cons (pv 1) pa_nil)) (blkOk_by (own := [("_law_k", 6)]) (N := N__law_words) (sc := defScope s__law_words) (by decide +kernel)) (fun _ _ _ _ _ => (pg_name (i := 6) nd rfl (Or.inl rfl))) (fun _ _ _ _ _ => pts_nil) (fun _ _ _ _ _ => (pe_op o_addS (pe_op o_addS (pe_slice sl_str (pv 7) po_none (po_some (pv 8))) (pe_ix ix_str (pv 2) (pe_op op_mod (pe_op op_add (pv 5) (pe_op op_mul pe_int (pv 6))) pe_int) (fun _ _ => rfl))) (pe_slice sl_str (pv 7) (po_some (pv 8)) po_none))))))))))))), ?_⟩
    try dsimp only [cxOf]
    have fin : ∀ (f : Nat → Str) (D0 : Addr) (acc : List V) (H1 H2 : Hp), Same H H1 → H1 D0 = none → Same H1 H2 → H2 D0 = some (.lst acc) → acc.length = m.toNat → (∀ (i : Nat) (y : V), acc[i]? = some y → y = .str (f i)) → (((List.range 15).map f).Nodup ∧ ∀ w ∈ (List.range 15).map f, isName w = true) → Q (.ref D0) H2 := by
      intro f D0 acc H1 H2 s1 h0 s2 ha hl hf hw
      refine k D0 ((List.range m.toNat).map f) H2 (s1.free h0) (s1.trans s2) ?_ (words_mk (by omega) hw)
      rw [ha]
      have e : acc = (List.range m.toNat).map fun i => V.str (f i) := acc_map (by simpa using hl) fun i y e => by
        obtain ⟨h3, _⟩ := List.getElem?_eq_some_iff.mp e
        exact ⟨i, List.getElem?_range (by omega), hf i y e⟩
      rw [e, List.map_map]; rfl
    tm_at "wp"
    rename_i ml hml
    refine ⟨p, 3, rfl, by tm_at "heap", by decide, by decide, fun way H1 w0 w1 s1 => ?_⟩
    tm_at "wp"
    refine ⟨p, 15, rfl, by tm_at "heap", by decide, by decide, fun b H2 b0 b1 s2 => ?_⟩
    have s02 : Same H H2 := ((same_new hml).trans s1).trans s2
    have hm2 : SqL K H2 ml (menuW.map V.str) := SqL.of (s2 _ _ (s1 _ _ upd_same))
    have hp2 : H2 p = some (poolO p) := s02 _ _ hp
    tm_at "wp"
    rename_i tp htp
    refine w_gtup (SqT.of upd_same) rfl ?_
    have s3 : Same H2 (upd H2 tp (.tup [.int way, .int b])) := same_new htp
    have s03 := s02.trans s3
    generalize hH3 : upd H2 tp (.tup [.int way, .int b]) = H3 at s3 s03
    have hm3 := s3.seq hm2
    have hp3 := s3 _ _ hp2
    tm_at "wp"
    refine w_ited (fun h1 => ?_) (fun h1 => ?_)
    · tm_at "wp"
      refine w_onR1 ⟨by omega, by omega⟩ ?_
      intro D0 hD
      refine lc_map walk_range (n := m.toNat) (by omega) (fun i y => y = .str (wordA b.toNat i)) hD (fun _ _ => trivial) ?_ ?_ mono_gname
      · rintro i y H4 H5 hi s4 ⟨rfl, rfl⟩ Qy hq
        refine w_gname ⟨rfl, ?_⟩
        tm_at "wp"
        refine w_ixL (s4.seq hm3) (v := .str (wordA b.toNat i)) ?_ (hq _ _ (Same.refl _) rfl)
        refine at_of (j := (b.toNat + 4 * i) % 15) (by omega) ?_
        have hlt : (b.toNat + 4 * i) % 15 < menuW.length := by show _ < 15; omega
        rw [List.getElem?_map, List.getElem?_eq_getElem hlt]
        simp [wordA, List.getD, List.getElem?_eq_getElem hlt]
      · intro acc H4 s4 h0 ha hl hf
        exact fin _ D0 acc H3 H4 s03 h0 s4 ha hl hf (wordA_all b.toNat (by omega))
    · tm_at "wp"
      refine w_ited (fun h2 => ?_) (fun h2 => ?_)
      · tm_at "wp"
        refine w_onR1 ⟨by omega, by omega⟩ ?_
        intro D0 hD
        refine lc_map walk_range (n := m.toNat) (by omega) (fun i y => y = .str (wordB b.toNat i)) hD (fun _ _ => trivial) ?_ ?_ mono_gname
        · rintro i y H4 H5 hi s4 ⟨rfl, rfl⟩ Qy hq
          refine w_gname ⟨rfl, ?_⟩
          tm_at "wp"
          refine w_ixS (z := letters) (by decide +kernel) (letters_at (Int.emod_nonneg _ (by decide)) (Int.emod_lt_of_pos _ (by decide))) ?_
          tm_at "wp"
          refine w_mulS (n := 1 + i % 8) (by omega) (by show 1 * _ ≤ _; omega) (by omega) (hq _ _ (Same.refl _) ?_)
          unfold wordB
          rw [show ((b + 7 * (0 + (i : Int))) % 26).toNat = (b.toNat + 7 * i) % 26 by omega]
        · intro acc H4 s4 h0 ha hl hf
          exact fin _ D0 acc H3 H4 s03 h0 s4 ha hl hf (wordB_all b.toNat (by omega))
      · tm_at "wp"
        refine ⟨p, 8, rfl, hp3, by decide, by decide, fun n8 H4 n0 n1 s4 => ?_⟩
        tm_at "wp"
        refine w_onR1 ⟨by omega, by omega⟩ ?_
        intro D0 hD
        have hp4 := s4 _ _ hp3
        refine lc_map walk_range (n := n8.toNat) (by omega) (fun i y => ∃ c, y = .str ⟨#[c]⟩ ∧ isLet c = true) hD (fun _ _ => trivial) ?_ ?_ mono_gname
        · rintro i y H5 H6 hi s5 ⟨rfl, rfl⟩ Qy hq
          refine w_gname ⟨rfl, ?_⟩
          tm_at "wp"
          refine ⟨p, 26, rfl, s5 _ _ hp4, by decide, by decide, fun c H6 c0 c1 s6 => ?_⟩
          tm_at "wp"
          refine w_ixS (z := letters) (by decide +kernel) (letters_at c0 c1) (hq _ _ s6 ⟨_, rfl, ?_⟩)
          unfold isLet
          rw [decide_eq_true (by omega), decide_eq_true (by omega)]; rfl
        · intro acc H5 s5 h0 ha hl hf
          obtain ⟨ys, ey, hy⟩ : ∃ ys : List Str, acc = ys.map V.str ∧ ∀ y ∈ ys, ∃ c, y = ⟨#[c]⟩ ∧ isLet c = true := by
            refine ⟨acc.map fun v => match v with | .str y => y | _ => Str.empty, ?_, fun y hy => ?_⟩
            · rw [List.map_map]
              refine (List.map_id acc).symm.trans (List.map_congr_left fun v hv => ?_)
              obtain ⟨i, hi, e⟩ := List.mem_iff_getElem.mp hv
              obtain ⟨c, e2, _⟩ := hf i v (by rw [List.getElem?_eq_getElem hi, e])
              subst e2; rfl
            · obtain ⟨v, hv, e⟩ := List.mem_map.mp hy
              obtain ⟨i, hi, e1⟩ := List.mem_iff_getElem.mp hv
              obtain ⟨c, e2, hc⟩ := hf i v (by rw [List.getElem?_eq_getElem hi, e1])
              subst e2
              exact ⟨c, e.symm, hc⟩
          have hyl : ys.length = n8.toNat := by rw [← hl, ey, List.length_map]
          have flat : ∀ l : List Str, (∀ y ∈ l, ∃ c, y = ⟨#[c]⟩ ∧ isLet c = true) → (l.map fun y => y.cps.toList).flatten.length = l.length ∧ (∀ c ∈ (l.map fun y => y.cps.toList).flatten, isLet c = true) ∧ (l.map (·.length)).sum = l.length := by
            intro l
            induction l with
            | nil => intro _; simp
            | cons y r ih =>
              intro h
              obtain ⟨c, rfl, hc⟩ := h _ List.mem_cons_self
              obtain ⟨i1, i2, i3⟩ := ih fun z hz => h z (List.mem_cons_of_mem _ hz)
              refine ⟨by simp at i1 ⊢; omega, fun d hd => ?_, ?_⟩
              · simp at hd
                rcases hd with h1 | h1
                · rw [h1]; exact hc
                · exact i2 d (by simpa using h1)
              · simp only [List.map_cons, List.sum_cons, List.length_cons]
                have : (⟨#[c]⟩ : Str).length = 1 := rfl
                omega
          obtain ⟨f1, f2, f3⟩ := flat ys hy
          subst ey
          refine w_join (SqL.of ha) (by rw [f3]; show _ + _ * 0 ≤ _; omega) ?_
          rw [txt_join_eq]
          generalize hst : Str.join (Str.ofString "") ys = stem
          have est : stem.cps.toList = (ys.map fun y => y.cps.toList).flatten := by rw [← hst]; exact join0_list ys
          have lst : stem.length = n8.toNat := by rw [len_list, est, f1, hyl]
          have s05 : Same H H5 := (s03.trans s4).trans s5
          tm_at "wp"
          refine w_lenS (sz_le (by omega)) ?_
          tm_at "wp"
          refine ⟨p, _, rfl, s05 _ _ hp, by omega, by omega, fun at_ H6 a0 a1 s6 => ?_⟩
          have s06 := s05.trans s6
          obtain ⟨q, rfl⟩ := Int.eq_ofNat_of_zero_le a0
          have hsz : stem.cps.size = stem.length := rfl
          tm_at "wp"
          refine w_onR1 ⟨by omega, by omega⟩ ?_
          intro D1 hD1
          refine lc_map walk_range (n := m.toNat) (by omega) (fun i y => y = .str (wordC b.toNat (stem.cps.toList.take q) (stem.cps.toList.drop q) i)) hD1 (fun _ _ => trivial) ?_ ?_ mono_gname
          · rintro i y H7 H8 hi s7 ⟨rfl, rfl⟩ Qy hq
            have c1 : cutS stem none (some ((q : Nat) : Int)) = ⟨(stem.cps.toList.take q).toArray⟩ := by
              unfold cutS
              rw [HT.sIx_nat, HT.sIx_none, Nat.min_eq_left (by omega)]
              simp
            have c2 : cutS stem (some ((q : Nat) : Int)) none = ⟨(stem.cps.toList.drop q).toArray⟩ := by
              unfold cutS
              rw [HT.sIx_nat, HT.sIx_none, Nat.min_eq_left (by omega)]
              have : stem.cps.toList.length = stem.length := (len_list stem).symm
              rw [List.take_of_length_le (by rw [List.length_drop]; omega)]
            refine w_gname ⟨rfl, ?_⟩
            tm_at "wp"
            refine w_slS (sz_le (by omega)) ?_
            tm_at "wp"
            refine w_ixS (z := letters) (by decide +kernel) (letters_at (Int.emod_nonneg _ (by decide)) (Int.emod_lt_of_pos _ (by decide))) ?_
            rw [c1]
            refine w_addS (sz_le ?_) ?_
            · rw [len_list, len_list]; simp; omega
            tm_at "wp"
            refine w_slS (sz_le (by omega)) ?_
            rw [c2]
            refine w_addS (sz_le ?_) (hq _ _ (Same.refl _) ?_)
            · rw [len_list, len_list, app_list]; simp; omega
            · congr 1
              refine str_ext ?_
              rw [app_list, app_list]
              unfold wordC
              rw [show ((b + 5 * (0 + (i : Int))) % 26).toNat = (b.toNat + 5 * i) % 26 by omega]
              simp
          · intro acc2 H7 s7 h02 ha2 hl2 hf2
            refine fin _ D1 acc2 H6 H7 s06 h02 s7 ha2 hl2 hf2 (wordC_all (by omega) (fun c hc => f2 c (est ▸ List.mem_of_mem_take hc)) (fun c hc => f2 c (est ▸ List.mem_of_mem_drop hc)) ?_)
            rw [List.length_take, List.length_drop, ← len_list]; omega
theorem ok__law_often {P : Program} {w : World} {K : PySem.W.Frag} {mg : Str → Option Value} {base : Heap} (fr : Fre mg) (D : Dfd K mg "_law_often" s__law_often)
    (h__law_draw : Has P w K mg base CX0 1 "_law_draw" s__law_draw ["_law_pool_here", "_law_many"] (sp__law_draw K)) : Has P w K mg base CX0 2 "_law_often" s__law_often ["_law_pool_here"] (sp__law_often K) := by
  refine D.has sc__law_often (fun vs H Q E h => ?_) (fun cdv A outer s H vs Q E hr hg h => ?_)
  · obtain ⟨p, rfl, _⟩ := h; rfl
  · obtain ⟨p, rfl, hp, k⟩ := h
    have nd := sc__law_often.nd
    refine ⟨_, PSs.nox (pss_cons (ps_set (i := 1) nd rfl (Or.inl rfl) (pe_fn h__law_draw pb__law_draw (hr.mono (by decide)) hg rfl pass0 (pa_cons (pv 0) (pa_cons pe_int pa_nil))))
      (pss_one (ps_ret (pe_ix (k_ixL K) (pe_lst (pa_cons pe_int (pa_cons pe_int (pa_cons pe_int (pa_cons (pe_op op_add pe_int (pe_fn h__law_draw pb__law_draw (hr.mono (by decide)) hg rfl pass0 (pa_cons (pv 0) (pa_cons pe_int pa_nil)))) (pa_cons (pe_op op_add pe_int (pe_fn h__law_draw pb__law_draw (hr.mono (by decide)) hg rfl pass0 (pa_cons (pv 0) (pa_cons (pe_op op_pow pe_int pe_int) pa_nil)))) (pa_cons (pe_op op_pow pe_int pe_int) pa_nil))))))) (pv 1) (fun _ _ => rfl))))), ?_⟩
    try dsimp only [cxOf]
    tm_at "wp"
    refine ⟨p, 6, rfl, hp, by decide, by decide, fun way H1 w0 w1 s1 => ?_⟩
    tm_at "wp"
    refine ⟨p, 30, rfl, s1 _ _ hp, by decide, by decide, fun a H2 a0 a1 s2 => ?_⟩
    have s02 := s1.trans s2
    tm_at "wp"
    refine ⟨p, _, rfl, s02 _ _ hp, by decide, by decide, fun b H3 b0 b1 s3 => ?_⟩
    have s03 := s02.trans s3
    tm_at "wp"
    rename_i q hq
    have s04 : Same H (upd H3 q (.lst [.int 1, .int 2, .int 3, .int (1 + a), .int (1 + b), .int ((10 : Int) ^ (30 : Int).toNat)])) := same_step s03 hq
    have e30 : (10 : Int) ^ (30 : Int).toNat = 10 ^ 30 := by decide
    rw [e30] at b1 s04 ⊢
    obtain ⟨n, rfl⟩ := Int.eq_ofNat_of_zero_le w0
    have fin : ∀ r : Int, 1 ≤ r → r ≤ 10 ^ 30 → [V.int 1, .int 2, .int 3, .int (1 + a), .int (1 + b), .int (10 ^ 30)][n]? = some (.int r) → rIxL K (.ref q) (.int ((n : Nat) : Int)) (upd H3 q (.lst [.int 1, .int 2, .int 3, .int (1 + a), .int (1 + b), .int (10 ^ 30)])) Q := fun r r0 r1 e =>
      w_ixL (SqL.of upd_same) (atI_nat e) (k r _ r0 r1 s04)
    have hn : n < 6 := by omega
    match n, hn with
    | 0, _ => exact fin 1 (by decide) (by decide) rfl
    | 1, _ => exact fin 2 (by decide) (by decide) rfl
    | 2, _ => exact fin 3 (by decide) (by decide) rfl
    | 3, _ => exact fin (1 + a) (by omega) (by omega) rfl
    | 4, _ => exact fin (1 + b) (by omega) (by omega) rfl
    | 5, _ => exact fin (10 ^ 30) (by decide) (by decide) rfl
theorem ok__law_bag {P : Program} {w : World} {K : PySem.W.Frag} {mg : Str → Option Value} {base : Heap} (fr : Fre mg) (D : Dfd K mg "_law_bag" s__law_bag)
    (h__law_draw : Has P w K mg base CX0 1 "_law_draw" s__law_draw ["_law_pool_here", "_law_many"] (sp__law_draw K))
    (h__law_often : Has P w K mg base CX0 2 "_law_often" s__law_often ["_law_pool_here"] (sp__law_often K)) : Has P w K mg base CX0 3 "_law_bag" s__law_bag ["_law_pool_here", "_law_words_here", "_law_most"] (sp__law_bag K) := by
  refine D.has sc__law_bag (fun vs H Q E h => ?_) (fun cdv A outer s H vs Q E hr hg h => ?_)
  · obtain ⟨p, a, ws, m, n, rfl, _⟩ := h; rfl
  · obtain ⟨p, a, ws, m, n, rfl, hp, hs, hw, hn, m0, m1, k⟩ := h
    have nd := sc__law_bag.nd
    refine ⟨_, PSs.nox (pss_cons (ps_set (i := 3) nd rfl (Or.inl rfl) (pe_lst pa_nil))
      (pss_cons (ps_for PassesOwn.never rfl (k_iList K (pe_callB (k_sortedS K) rfl fr.sorted_ (by decide +kernel) (pa_cons (pv 1) pa_nil))) (pg_name (i := 4) nd rfl (Or.inl rfl))
        (pss_one (ps_if (pt_cmpR op_gt (pe_fn h__law_draw pb__law_draw (hr.mono (by decide)) hg rfl pass0 (pa_cons (pv 0) (pa_cons pe_int pa_nil))) pe_int (nomark _)) (pss_one (ps_expr (k_bm K PySem.F.plainAttrs_list PySem.F.slot_list_append PySem.F.type_list_append mt_append (pv 3) (pa_cons (pe_tup (pa_cons (pv 4) (pa_cons (pe_ifExp (pt_cmpR op_eq (pv 2) pe_int (nomark _)) (pe_fn h__law_often pb__law_often (hr.mono (by decide)) hg rfl pass0 (pa_cons (pv 0) pa_nil)) (pe_op op_add pe_int (pe_fn h__law_draw pb__law_draw (hr.mono (by decide)) hg rfl pass0 (pa_cons (pv 0) (pa_cons (pv 2) pa_nil))))) pa_nil))) pa_nil)))) pss_nil)))
      (pss_one (ps_ret (pe_callTy (k_tuple K) rfl fr.tuple_ (by decide +kernel) (pa_cons (pv 3) pa_nil)))))), ?_⟩
    try dsimp only [cxOf]
    tm_at "wp"
    rename_i l hl
    refine w_sortedS ((same_new hl).seq hs) (by rw [hw.len]; exact hn) ?_
    intro ys q hperm hsorted hq
    have hlq : l ≠ q := ne_fresh (upd_same) hq
    have hlen : ys.length = n := by rw [hperm.length_eq, hw.len]
    have asc := sorted_asc hsorted (hperm.nodup_iff.mpr hw.nd)
    have mem : ∀ w ∈ ys, w ∈ ws := fun w h => hperm.mem_iff.mp h
    have s1 : Same H (upd (upd H l (.lst [])) q (.lst (ys.map V.str))) := same_step (same_new hl) hq
    have hq0 : H q = none := free_upd hq
    refine w_onL (SqL.of upd_same) ?_
    refine for_go (walk_list (xs := ys.map V.str)) (fun i σ H' => ∃ (u : Option V) (ps : Bag) (xs : List V), σ = [some (.ref p), some (.ref a), some (.int m), some (.ref l), u] ∧ Same H H' ∧ H' q = some (.lst (ys.map V.str)) ∧ H' l = some (.lst xs) ∧ DpAll K H' xs (ps.map pairD) ∧ BagOk ps ∧ (∀ z ∈ ps, z.1 ∈ ys.take i) ∧ ps.length ≤ i ∧ (∀ z ∈ ps, z.2 ≤ 10 ^ 30) ∧ (0 < m → ∀ z ∈ ps, z.2 ≤ m))
      ⟨none, [], [], rfl, s1, upd_same, (upd_ne hlq).trans upd_same, .nil, ⟨.nil, nofun, nofun⟩, nofun, Nat.le_refl _, nofun, fun _ => nofun⟩ (fun i σ H' _ ⟨_, _, _, _, _, h, _⟩ => SqL.of h) ?_ ?_
    · rintro i v σ H1 H2 hi ⟨u, ps, xs, rfl, s2, hq2, hl2, hd, hb, hm, hlp, hc, hc2⟩ ⟨rfl, hy⟩
      rw [List.length_map] at hi
      have ey : v = .str ys[i] := by rw [List.getElem?_map, List.getElem?_eq_getElem hi] at hy; exact (Option.some.inj hy).symm
      subst ey
      have ht : ys.take (i + 1) = ys.take i ++ [ys[i]] := take_succ_snoc (List.getElem?_eq_getElem hi)
      have hxl : xs.length = ps.length := by rw [dps_len hd, List.length_map]
      have skip : ∀ (u' : Option V) H', Same H2 H' → ∃ (u : Option V) (ps : Bag) (xs : List V), [some (V.ref p), some (V.ref a), some (V.int m), some (V.ref l), u'] = [some (.ref p), some (.ref a), some (.int m), some (.ref l), u] ∧ Same H H' ∧ H' q = some (.lst (ys.map V.str)) ∧ H' l = some (.lst xs) ∧ DpAll K H' xs (ps.map pairD) ∧ BagOk ps ∧ (∀ z ∈ ps, z.1 ∈ ys.take (i + 1)) ∧ ps.length ≤ i + 1 ∧ (∀ z ∈ ps, z.2 ≤ 10 ^ 30) ∧ (0 < m → ∀ z ∈ ps, z.2 ≤ m) := fun u' H' s' =>
        ⟨u', ps, xs, rfl, s2.trans s', s' _ _ hq2, s' _ _ hl2, dps_same s' hd, hb, fun z hz => by rw [ht]; exact List.mem_append_left _ (hm z hz), Nat.le_succ_of_le hlp, hc, hc2⟩
      have app : ∀ (c : Int) (T : Addr) H', 1 ≤ c → c ≤ 10 ^ 30 → (0 < m → c ≤ m) → Same H2 H' → H' T = none → ∀ u' : Option V, rAppend (.ref l) [.ref T] (upd H' T (.tup [.str ys[i], .int c])) (fun _ H3 => ∃ (u : Option V) (ps : Bag) (xs : List V), [some (V.ref p), some (V.ref a), some (V.int m), some (V.ref l), u'] = [some (.ref p), some (.ref a), some (.int m), some (.ref l), u] ∧ Same H H3 ∧ H3 q = some (.lst (ys.map V.str)) ∧ H3 l = some (.lst xs) ∧ DpAll K H3 xs (ps.map pairD) ∧ BagOk ps ∧ (∀ z ∈ ps, z.1 ∈ ys.take (i + 1)) ∧ ps.length ≤ i + 1 ∧ (∀ z ∈ ps, z.2 ≤ 10 ^ 30) ∧ (0 < m → ∀ z ∈ ps, z.2 ≤ m)) := by
        intro c T H' c0 c1 c2 s' hT u'
        have hl3 : (upd H' T (.tup [.str ys[i], .int c])) l = some (.lst xs) := hp_new (s' _ _ hl2) hT
        refine w_append hl3 (sz_lt (by omega)) ⟨u', ps ++ [(ys[i], c)], xs ++ [.ref T], rfl, same_mut (same_step (s2.trans s') hT) hl, ?_, upd_same, ?_, ?_, ?_, ?_, ?_, ?_⟩
        · rw [upd_ne (ne_of hl3 (hp_new (s' _ _ hq2) hT) ?_).symm]
          · exact hp_new (s' _ _ hq2) hT
          · intro z
            injection z with z
            have := congrArg List.length z
            rw [List.length_map] at this
            omega
        · have st : SameT (upd H' T (.tup [.str ys[i], .int c])) (upd (upd H' T (.tup [.str ys[i], .int c])) l (.lst (xs ++ [.ref T]))) := SameT.lst hl3
          rw [List.map_append]
          refine dps_snoc ?_ ?_
          · exact dps_flat st (dps_same (s'.trans (same_new hT)) hd) (by have := flat_bag ps; simpa [bagD, flatD] using this)
          · exact pair_mk (st.sqt (SqT.of upd_same))
        · refine ⟨?_, ?_, ?_⟩
          · rw [List.pairwise_append]
            refine ⟨hb.asc, List.pairwise_singleton _ _, fun z hz z' hz' => ?_⟩
            rw [List.mem_singleton] at hz'
            subst hz'
            exact asc_take asc hi (hm z hz)
          · intro z hz
            rcases List.mem_append.mp hz with h | h
            · exact hb.nam z h
            · rw [List.mem_singleton] at h; subst h
              exact hw.nam _ (mem _ (List.getElem_mem hi))
          · intro z hz
            rcases List.mem_append.mp hz with h | h
            · exact hb.pos z h
            · rw [List.mem_singleton] at h; subst h; exact c0
        · intro z hz
          rw [ht]
          rcases List.mem_append.mp hz with h | h
          · exact List.mem_append_left _ (hm z h)
          · rw [List.mem_singleton] at h; subst h; exact List.mem_append_right _ (List.mem_singleton.mpr rfl)
        · simp; omega
        · intro z hz
          rcases List.mem_append.mp hz with h | h
          · exact hc z h
          · rw [List.mem_singleton] at h; subst h; exact c1
        · intro m2 z hz
          rcases List.mem_append.mp hz with h | h
          · exact hc2 m2 z h
          · rw [List.mem_singleton] at h; subst h; exact c2 m2
      tm_at "wp"
      refine ⟨p, 4, rfl, s2 _ _ hp, by decide, by decide, fun r H3 r0 r1 s3 => ?_⟩
      tm_at "wp"
      refine w_ited (fun h1 => ?_) (fun h1 => ?_)
      · tm_at "wp"
        refine w_tyL (s3 _ _ hl2) ?_
        tm_at "wp"
        refine w_ited (fun h2 => ?_) (fun h2 => ?_)
        · tm_at "wp"
          refine ⟨p, rfl, (s2.trans s3) _ _ hp, fun c H4 c0 c1 s4 => ?_⟩
          tm_at "wp"
          rename_i T hT
          exact app c T H4 c0 c1 (fun h => by omega) (s3.trans s4) hT _
        · tm_at "wp"
          refine ⟨p, m, rfl, (s2.trans s3) _ _ hp, by omega, by omega, fun c H4 c0 c1 s4 => ?_⟩
          tm_at "wp"
          rename_i T hT
          exact app (1 + c) T H4 (by omega) (by omega) (fun h => by omega) (s3.trans s4) hT _
      · tm_at "wp"
        exact skip _ _ s3
    · rintro σ H1 ⟨u, ps, xs, rfl, s2, hq2, hl2, hd, hb, hm, hlp, hc, hc2⟩
      rw [List.length_map] at hlp hm
      tm_at "wp"
      refine w_tupL (SqL.of hl2) ?_
      intro T hT
      refine k (.ref T) ps _ (same_step s2 hT) (.tup (SqT.of upd_same) (dps_same (same_new hT) hd)) hb (fun z hz => mem _ (List.mem_of_mem_take (hm z hz))) (by omega) hc hc2
theorem ok__law_run {P : Program} {w : World} {K : PySem.W.Frag} {mg : Str → Option Value} {base : Heap} (fr : Fre mg) (D : Dfd K mg "_law_run" s__law_run) : Has P w K mg base CX0 1 "_law_run" s__law_run ["_law_width", "_law_held_here", "_law_word", "_law_often_here"] (sp__law_run K) := by
  refine D.has sc__law_run (fun vs H Q E h => ?_) (fun cdv A outer s H vs Q E hr hg h => ?_)
  · obtain ⟨c, a, t, n, m, rfl, _⟩ := h; rfl
  · obtain ⟨c, a, t, n, m, rfl, ha, hc, c8, hm, k⟩ := h
    have nd := sc__law_run.nd
    refine ⟨_, PSs.nox (pss_cons (ps_set (i := 4) nd rfl (Or.inl rfl) pe_int)
      (pss_cons (ps_while PassesOwn.never (PW.pt (pw_and (pt_cmpR op_gt (pv 3) pe_int (nomark _)) (pw_and (pt_cmp (pc_dnotin (hu_of hr) (pv 2) (pv 1)) rfl) (pw_and1 (pt_cmpR op_eq (pe_callB c_lenD rfl fr.len_ (by decide +kernel) (pa_cons (pv 1) pa_nil)) (pv 0) (nomark _)))))) (pss_cons (ps_set (i := 5) nd rfl (Or.inl rfl) (pe_callB (c_min2 rfl) rfl fr.min_ (by decide +kernel) (pa_cons (pv 3) (pa_cons (pe_callB (k_min K rfl) rfl fr.min_ (by decide +kernel) (pa_cons (pe_lock (pe_lc (own := [("_law_each", 6)]) (g := gName 6) (tt := tYes) rfl nd (pi_keys (pv 1)) (blkOk_by (own := [("_law_each", 6)]) (N := N__law_run) (sc := defScope s__law_run) (by decide +kernel)) (fun _ _ _ _ _ => (pg_name (i := 6) nd rfl (Or.inl rfl))) (fun _ _ _ _ _ => pts_nil) (fun _ _ _ _ _ => (pe_dget (hu_of hr) (pv 1) (pv 6) (fun _ _ => rfl))))) pa_nil)) pa_nil))))
      (pss_cons (ps_set (i := 7) nd rfl (Or.inl rfl) pe_dnewK)
      (pss_cons (ps_lock (ps_for PassesOwn.never rfl (pi_keys (pv 1)) (pg_name (i := 6) nd rfl (Or.inl rfl))
        (pss_one (ps_if (pt_cmpR op_gt (pe_dget (hu_of hr) (pv 1) (pv 6) (fun _ _ => rfl)) (pv 5) (nomark _)) (pss_one (ps_dput (hu_of hr) (pv 7) (pv 6) (pe_op op_sub (pe_dget (hu_of hr) (pv 1) (pv 6) (fun _ _ => rfl)) (pv 5)) rfl)) pss_nil))))
      (pss_cons (ps_asg (pe_tup (pa_cons (pv 7) (pa_cons (pe_op op_add (pv 4) (pv 5)) pa_nil))) (k_gtup K rfl (pgs_cons (pg_name (i := 1) nd rfl (Or.inr rfl)) (pgs_cons (pg_name (i := 4) nd rfl (Or.inl rfl)) pgs_nil))))
      (pss_one (ps_set (i := 3) nd rfl (Or.inl rfl) (pe_op op_sub (pv 3) (pv 5)))))))))
      (pss_cons (ps_set (i := 7) nd rfl (Or.inl rfl) (pe_callTy c_dictD rfl fr.dict_ (by decide +kernel) (pa_cons (pv 1) pa_nil)))
      (pss_cons (ps_if (pt_cmpR op_gt (pv 3) pe_int (nomark _)) (pss_one (ps_dput (hu_of hr) (pv 7) (pv 2) (pe_op op_add (pe_dget2 (hu_of hr) (pv 1) (pv 2) pe_int ⟨rfl, rfl, rfl, rfl⟩) (pv 3)) rfl)) pss_nil)
      (pss_one (ps_ret (pe_tup (pa_cons (pv 7) (pa_cons (pv 4) pa_nil))))))))), ?_⟩
    try dsimp only [cxOf]
    have hlen : t.length ≤ 100 := by have := hc.len; omega
    tm_at "wp"
    refine w_while3 (fun μ σ H' => ∃ (d : Addr) (t' : Bag) (m' l : Int) (u v w : Option V), σ = [some (.int c), some (.ref d), some (.str n), some (.int m'), some (.int l), u, v, w] ∧ Same H H' ∧ H' d = some (.dK (kvOf t')) ∧
        ((μ = 1 ∧ t' = t ∧ m' = m ∧ l = 0) ∨ (μ = 0 ∧ n ∉ keys t ∧ (t.length : Int) = c ∧ l = (if m ≤ minV t then m else minV t) ∧ t' = lowT t l ∧ m' = m - l)))
      (fun σ H' => ∃ (d : Addr) (t' : Bag) (m' l : Int) (u v w : Option V), σ = [some (.int c), some (.ref d), some (.str n), some (.int m'), some (.int l), u, v, w] ∧ Same H H' ∧ H' d = some (.dK (kvOf t')) ∧ t'.length ≤ 100 ∧
        ((t' = t ∧ m' = m ∧ l = 0 ∧ (n ∈ keys t ∨ (t.length : Int) ≠ c)) ∨ (n ∉ keys t ∧ (t.length : Int) = c ∧ l = (if m ≤ minV t then m else minV t) ∧ t' = lowT t l ∧ m' = m - l))) 1
      ⟨a, t, m, 0, none, none, none, rfl, Same.refl _, ha, .inl ⟨rfl, rfl, rfl, rfl⟩⟩ ?_ ?_
    · rintro σ H1 ⟨d, t', m', l, u, v, w, rfl, s1, hd, hl', hf⟩
      have ef := run_fin (c := c) (n := n) hc hm hf
      tm_at "wp"
      refine w_dictD (.inl hd) ?_
      intro b hb
      have hb0 : H b = none := free_back s1 hb
      tm_at "wp"
      refine w_ited (fun h => ?_) (fun h => ?_)
      · rw [if_pos h] at ef
        have ef1 : putT t' n (getT t' n + m') = (arrT c t n m).1 := congrArg Prod.fst ef
        have ef2 : l = (arrT c t n m).2 := congrArg Prod.snd ef
        tm_at "wp"
        refine w_isD (hp_new hd hb) ?_
        tm_at "wp"
        refine w_dgetk (hp_new hd hb) ?_
        rw [kv_get]
        tm_at "wp"
        refine w_dputk upd_same (by rw [kv_len]; exact sz_lt (by omega)) ?_
        tm_at "wp"
        rename_i p hp
        refine k (.ref p) p b _ (same_step (same_mut (same_step s1 hb) hb0) hp) rfl (SqT.of (by rw [upd_same, ← ef2])) hb0 ?_
        rw [upd_ne (ne_fresh upd_same hp), upd_same, kv_put, ef1]
      · rw [if_neg h] at ef
        have ef1 : t' = (arrT c t n m).1 := congrArg Prod.fst ef
        have ef2 : l = (arrT c t n m).2 := congrArg Prod.snd ef
        tm_at "wp"
        rename_i p hp
        refine k (.ref p) p b _ (same_step (same_step s1 hb) hp) rfl (SqT.of (by rw [upd_same, ← ef2])) hb0 ?_
        rw [upd_ne (ne_fresh upd_same hp), upd_same, ef1]
    · intro hx μ σ H1 hP
      obtain ⟨d, t', m', l, u, v, w, rfl, s1, hd, hst⟩ := hP
      tm_at "wp"
      refine w_ited (fun h1 => ?_) (fun h1 => ?_)
      · tm_at "wp"
        refine w_dinc (.inl hd) ?_
        rw [kv_isSome]
        tm_at "wp"
        refine w_iten (fun h2 => ?_) (fun h2 => ?_)
        · tm_at "wp"
          refine w_lenD hd ?_
          tm_at "wp"
          rw [kv_len]
          refine w_ited (fun h3 => ?_) (fun h3 => ?_)
          · rcases hst with ⟨rfl, rfl, rfl, rfl⟩ | ⟨rfl, z1, z2, rfl, rfl, rfl⟩
            · have ne := hc.ne h3
              tm_at "wp"
              refine w_lockE hd fun od => ?_
              tm_at "wp"
              refine w_onK upd_same ?_
              intro D hD
              have hDd : D ≠ d := fun e => by rw [e, upd_same] at hD; cases hD
              refine lc_map walk_keys (n := (kvOf t').length) (by rw [kv_len]; omega) (fun i y => ∃ p, t'[i]? = some p ∧ y = .int p.2) hD (fun _ s' => s' _ _ upd_same) ?_ ?_ mono_gname
              · rintro i x H2 H3 hi s2 ⟨rfl, kk, vv, e1, rfl⟩ Qy hq
                obtain ⟨p, e2, rfl, rfl⟩ := kv_at e1
                refine w_gname ⟨rfl, ?_⟩
                tm_at "wp"
                refine w_dgetR (.inr ⟨od, s2 _ _ upd_same⟩) (kv_some (List.mem_map.mpr ⟨p, List.mem_of_getElem? e2, rfl⟩)) ?_
                rw [getT_mem hc.tab.nd (List.mem_of_getElem? e2)]
                exact hq _ _ (Same.refl _) ⟨p, e2, rfl⟩
              · intro acc H2 s2 _ hacc hal hf
                rw [kv_len] at hal
                have e : acc = (t'.map (·.2)).map V.int := by rw [List.map_map]; exact acc_map hal hf
                rw [e] at hacc
                have s12 : Same H1 (upd H2 d (.dK (kvOf t'))) := lock_back hd s2
                refine ⟨s2 _ _ upd_same, ?_⟩
                tm_at "wp"
                refine w_min (SqL.of (by rw [upd_ne hDd]; exact hacc)) (by simpa using ne) ?_
                tm_at "wp"
                have es : (if minL (t'.map (·.2)) < m' then minL (t'.map (·.2)) else m') = (if m' ≤ minV t' then m' else minV t') := by
                  show (if minV t' < m' then minV t' else m') = _
                  by_cases y : m' ≤ minV t'
                  · rw [if_pos y, if_neg (by omega)]
                  · rw [if_neg y, if_pos (by omega)]
                rw [es]
                generalize eS : (if m' ≤ minV t' then m' else minV t') = S
                have hdd : (upd H2 d (.dK (kvOf t'))) d = some (.dK (kvOf t')) := upd_same
                rename_i b hb
                generalize upd H2 d (.dK (kvOf t')) = H3 at s12 hdd hb
                have hdb : d ≠ b := ne_fresh hdd hb
                refine w_lock (hp_new hdd hb) fun od => ?_
                tm_at "wp"
                refine w_onK upd_same ?_
                refine for_go walk_keys (fun i σ H' => ∃ u, σ = [some (.int c), some (.ref d), some (.str n), some (.int m'), some (.int 0), some (.int S), u, some (.ref b)] ∧ SameB b (upd (upd H3 b (.dK [])) d (.frz od (.dK (kvOf t')))) H' ∧ H' b = some (.dK (kvOf (lowT (t'.take i) S)))) ⟨v, rfl, fun _ _ _ e => e, by rw [upd_ne hdb.symm, upd_same]; rfl⟩ (fun i σ H' _ ⟨_, _, s, _⟩ => s _ _ hdb upd_same) ?_ ?_
                · rintro i x σ H4 H5 hi ⟨u, rfl, s4, hb4⟩ ⟨rfl, kk, vv, e1, rfl⟩
                  rw [kv_len] at hi
                  obtain ⟨q, e2, rfl, rfl⟩ := kv_at e1
                  have hin : q.1 ∈ keys t' := List.mem_map.mpr ⟨q, List.mem_of_getElem? e2, rfl⟩
                  have hg : getT t' q.1 = q.2 := getT_mem hc.tab.nd (List.mem_of_getElem? e2)
                  have hr : Rd H5 d (.dK (kvOf t')) := .inr ⟨od, s4 _ _ hdb upd_same⟩
                  refine w_gname ?_
                  tm_at "wp"
                  refine w_dgetR hr (kv_some hin) ?_
                  rw [hg]
                  tm_at "wp"
                  refine w_ited (fun h => ?_) (fun h => ?_)
                  · tm_at "wp"
                    refine w_dgetR hr (kv_some hin) ?_
                    rw [hg]
                    tm_at "wp"
                    refine w_dputk hb4 (by rw [kv_len]; have := lowT_len (t'.take i) S; rw [List.length_take] at this; exact sz_lt (by omega)) ?_
                    tm_at "wp"
                    refine ⟨_, rfl, s4.trans SameB.upd, ?_⟩
                    rw [upd_same, kv_put, lowT_take t' S i hc.tab.nd e2 h]
                  · tm_at "wp"
                    refine ⟨_, rfl, s4, ?_⟩
                    rw [hb4, lowT_skip t' S i e2 h]
                · rintro σ H4 ⟨u, rfl, s4, hb4⟩
                  refine ⟨s4 _ _ hdb upd_same, ?_⟩
                  have hb5 : (upd H4 d (.dK (kvOf t'))) b = some (.dK (kvOf (lowT t' S))) := by rw [upd_ne hdb.symm, hb4, kv_len, List.take_length]
                  have s5 : Same H3 (upd H4 d (.dK (kvOf t'))) := by
                    intro z o e
                    by_cases za : z = d
                    · subst za; rw [upd_same]; rw [hdd] at e; exact e
                    · rw [upd_ne za]
                      have zb : z ≠ b := ne_fresh e hb
                      exact s4 z o zb (by rw [upd_ne za, upd_ne zb]; exact e)
                  tm_at "wp"
                  rename_i pp hpp
                  refine w_gtup (SqT.of upd_same) rfl ?_
                  tm_at "wp"
                  rw [Int.zero_add]
                  refine ⟨0, by omega, b, _, _, _, _, _, _, rfl, same_step ((s1.trans s12).trans s5) hpp, hp_new hb5 hpp, .inr ⟨rfl, h2, h3, rfl, rfl, rfl⟩⟩
            · exfalso
              by_cases y : m ≤ minV t
              · rw [if_pos y] at h1; omega
              · rw [if_neg y] at h3
                obtain ⟨p, hp, e⟩ := minV_mem (hc.ne z2)
                have := lowT_less hp (by omega : p.2 ≤ minV t)
                omega
          · refine hx _ _ ⟨d, t', m', l, u, v, w, rfl, s1, hd, ?_, ?_⟩
            · rcases hst with ⟨rfl, rfl, rfl, rfl⟩ | ⟨rfl, z1, z2, rfl, rfl, rfl⟩
              · omega
              · have := lowT_len t (if m ≤ minV t then m else minV t); omega
            · rcases hst with ⟨rfl, rfl, rfl, rfl⟩ | ⟨rfl, z⟩
              · exact .inl ⟨rfl, rfl, rfl, .inr h3⟩
              · exact .inr z
        · refine hx _ _ ⟨d, t', m', l, u, v, w, rfl, s1, hd, ?_, ?_⟩
          · rcases hst with ⟨rfl, rfl, rfl, rfl⟩ | ⟨rfl, z1, z2, rfl, rfl, rfl⟩
            · omega
            · have := lowT_len t (if m ≤ minV t then m else minV t); omega
          · rcases hst with ⟨rfl, rfl, rfl, rfl⟩ | ⟨rfl, z⟩
            · exact .inl ⟨rfl, rfl, rfl, .inl h2⟩
            · exact .inr z
      · refine hx _ _ ⟨d, t', m', l, u, v, w, rfl, s1, hd, ?_, ?_⟩
        · rcases hst with ⟨rfl, rfl, rfl, rfl⟩ | ⟨rfl, z1, z2, rfl, rfl, rfl⟩
          · omega
          · have := lowT_len t (if m ≤ minV t then m else minV t); omega
        · rcases hst with ⟨rfl, rfl, rfl, rfl⟩ | ⟨rfl, z⟩
          · omega
          · exact .inr z
theorem ok__law_flat {P : Program} {w : World} {K : PySem.W.Frag} {mg : Str → Option Value} {base : Heap} (fr : Fre mg) (D : Dfd K mg "_law_flat" s__law_flat) : Has P w K mg base CX0 1 "_law_flat" s__law_flat ["_law_held_here"] (sp__law_flat K) := by
  refine D.has sc__law_flat (fun vs H Q E h => ?_) (fun cdv A outer s H vs Q E hr hg h => ?_)
  · obtain ⟨a, t, rfl, _⟩ := h; rfl
  · obtain ⟨a, t, rfl, ha, hn, hl, hpos, k⟩ := h
    have nd := sc__law_flat.nd
    refine ⟨_, PSs.nox (pss_one (ps_ret (pe_callTy (k_tuple K) rfl fr.tuple_ (by decide +kernel) (pa_cons (pe_lc (own := [("_law_word", 1)]) (g := gName 1) (tt := tYes) rfl nd (k_iList K (pe_callB (c_sortedDk rfl) rfl fr.sorted_ (by decide +kernel) (pa_cons (pv 0) pa_nil))) (blkOk_by (own := [("_law_word", 1)]) (N := N__law_flat) (sc := defScope s__law_flat) (by decide +kernel)) (fun _ _ _ _ _ => (pg_name (i := 1) nd rfl (Or.inl rfl))) (fun _ _ _ _ _ => pts_nil) (fun _ _ _ _ _ => (pe_tup (pa_cons (pv 1) (pa_cons (pe_dget (hu_of hr) (pv 0) (pv 1) (fun _ _ => rfl)) pa_nil))))) pa_nil)))), ?_⟩
    try dsimp only [cxOf]
    tm_at "wp"
    refine w_sortedDk ha hl ?_
    intro ys q hperm hsorted hq
    have asc := sorted_asc hsorted (hperm.nodup_iff.mpr hn)
    have hlen : ys.length = t.length := by rw [hperm.length_eq, List.length_map]
    refine w_onL (SqL.of upd_same) ?_
    intro D0 hD
    refine lc_dat K (walk_list (xs := ys.map V.str)) (by rw [List.length_map]; omega) (fun i d => ∃ y, ys[i]? = some y ∧ d = pairD (y, getT t y)) hD (fun _ s => s.seq (SqL.of upd_same)) ?_ ?_ mono_gname
    · rintro i y H1 H2 hi s ⟨rfl, hy⟩ Qy hq1
      rw [List.length_map] at hi
      have ey : y = .str ys[i] := by rw [List.getElem?_map, List.getElem?_eq_getElem hi] at hy; exact (Option.some.inj hy).symm
      subst ey
      have hin : ys[i] ∈ t.map (·.1) := hperm.mem_iff.mp (List.getElem_mem hi)
      have ha1 : H2 a = some (.dK (kvOf t)) := s _ _ (hp_new ha hq)
      refine w_gname ⟨rfl, ?_⟩
      tm_at "wp"
      refine w_dgetc ha1 (kv_some hin) ?_
      tm_at "wp"
      rename_i T hT
      exact hq1 _ _ _ (same_new hT) (pair_mk (SqT.of upd_same)) rfl ⟨_, List.getElem?_eq_getElem hi, rfl⟩
    · intro acc ds H1 s1 _ hacc hdp _ hdl hR
      have e0 : ds = ys.map fun y => pairD (y, getT t y) := ds_eq (by rw [hdl, List.length_map]) hR
      have e : ds = (canF (getT t) ys).map pairD := by
        rw [e0]
        unfold canF
        rw [List.map_filterMap]
        rw [← List.filterMap_eq_map]
        refine fm_congr fun y hy => ?_
        rw [if_pos (hpos y (hperm.mem_iff.mp hy))]; rfl
      rw [e] at hdp
      tm_at "wp"
      refine w_tupL (SqL.of hacc) ?_
      intro T hT
      refine k (.ref T) _ _ (((same_new hq).trans s1).trans (same_new hT)) (.tup (SqT.of upd_same) (dps_same (same_new hT) hdp)) (canF_can hperm asc) (by have := canF_len (getT t) ys; omega) fun p hp => hperm.mem_iff.mp (canF_mem hp).1
theorem ok__law_held {P : Program} {w : World} {K : PySem.W.Frag} {mg : Str → Option Value} {base : Heap} (fr : Fre mg) (D : Dfd K mg "_law_held" s__law_held) : Has P w K mg base CX0 1 "_law_held" s__law_held ["_law_bag_here"] (sp__law_held K) := by
  refine D.has sc__law_held (fun vs H Q E h => ?_) (fun cdv A outer s H vs Q E hr hg h => ?_)
  · obtain ⟨v, ps, rfl, _⟩ := h; rfl
  · obtain ⟨v, ps, rfl, hd, hn, hl0, k⟩ := h
    have nd := sc__law_held.nd
    refine ⟨_, PSs.nox (pss_cons (ps_set (i := 1) nd rfl (Or.inl rfl) pe_dnewK)
      (pss_cons (ps_for PassesOwn.never rfl (k_iTup K (pv 0)) (k_gtup K rfl (pgs_cons (pg_name (i := 2) nd rfl (Or.inl rfl)) (pgs_cons (pg_name (i := 3) nd rfl (Or.inl rfl)) pgs_nil)))
        (pss_one (ps_dput (hu_of hr) (pv 1) (pv 2) (pv 3) rfl)))
      (pss_one (ps_ret (pv 1))))), ?_⟩
    try dsimp only [cxOf]
    obtain ⟨a, xs, rfl, hs, hx, hl⟩ := bag_inv hd
    tm_at "wp"
    rename_i d hd0
    refine w_onT (sqt_same (same_new hd0) hs) ?_
    refine for_go (walk_tup (xs := xs)) (fun i σ H' => ∃ u w, σ = [some (.ref a), some (.ref d), u, w] ∧ Same H H' ∧ H' d = some (.dK (kvOf (ps.take i)))) ⟨none, none, rfl, same_new hd0, upd_same⟩ (fun i σ H' _ ⟨_, _, _, s, _⟩ => sqt_same s hs) ?_ ?_
    · rintro i v σ H1 H2 hi ⟨u, w, rfl, s1, hd1⟩ ⟨rfl, hy⟩
      obtain ⟨p, b, e1, rfl, hb⟩ := bag_get hx hy
      refine w_gtup (sqt_same s1 hb) rfl ?_
      tm_at "wp"
      refine w_dputk hd1 (by rw [kv_len, List.length_take]; exact Nat.lt_of_le_of_lt (show _ ≤ 100000 by omega) (by decide)) ?_
      tm_at "wp"
      refine ⟨_, _, rfl, same_mut s1 hd0, ?_⟩
      have hnot : p.1 ∉ keys (ps.take i) := fun z => by
        obtain ⟨hi', e2⟩ := List.getElem?_eq_some_iff.mp e1
        have h2 : (keys (ps.take i ++ ps.drop i)).Nodup := by rw [List.take_append_drop]; exact hn
        unfold keys at h2 z
        rw [List.map_append, List.nodup_append] at h2
        exact h2.2.2 _ z _ (List.mem_map.mpr ⟨p, by rw [List.drop_eq_getElem_cons hi', e2]; exact List.mem_cons_self, rfl⟩) rfl
      rw [kv_put, upd_same, put_new hnot, take_succ_snoc e1]
    · rintro σ H1 ⟨u, w, rfl, s1, hd1⟩
      tm_at "wp"
      refine k d _ hd0 s1 ?_
      rw [hd1, List.take_of_length_le (by omega)]
theorem ok__law_merged {P : Program} {w : World} {K : PySem.W.Frag} {mg : Str → Option Value} {base : Heap} (fr : Fre mg) (D : Dfd K mg "_law_merged" s__law_merged)
    (h__law_held : Has P w K mg base CX0 1 "_law_held" s__law_held ["_law_bag_here"] (sp__law_held K)) : Has P w K mg base CX0 2 "_law_merged" s__law_merged ["_law_width", "_law_one_bag", "_law_more_bag"] (sp__law_merged K) := by
  refine D.has sc__law_merged (fun vs H Q E h => ?_) (fun cdv A outer s H vs Q E hr hg h => ?_)
  · obtain ⟨v, w, c, ps, qs, rfl, _⟩ := h; rfl
  · obtain ⟨v, w, c, ps, qs, rfl, hd, hv, hdw, hw, k⟩ := h
    have nd := sc__law_merged.nd
    refine ⟨_, PSs.nox (pss_cons (ps_set (i := 3) nd rfl (Or.inr rfl) (pe_fn h__law_held pb__law_held (hr.mono (by decide)) hg rfl pass0 (pa_cons (pv 1) pa_nil)))
      (pss_cons (ps_for PassesOwn.never rfl (k_iTup K (pv 2)) (k_gtup K rfl (pgs_cons (pg_name (i := 4) nd rfl (Or.inl rfl)) (pgs_cons (pg_name (i := 5) nd rfl (Or.inl rfl)) pgs_nil)))
        (pss_one (ps_dput (hu_of hr) (pv 3) (pv 4) (pe_op op_add (pe_dget2 (hu_of hr) (pv 3) (pv 4) pe_int ⟨rfl, rfl, rfl, rfl⟩) (pv 5)) rfl)))
      (pss_cons (ps_set (i := 6) nd rfl (Or.inl rfl) (pe_callBK (k_sortedRev K) rfl fr.sorted_ (by decide +kernel) (pa_cons (pe_lock (pe_lc (own := [("_law_word", 4)]) (g := gName 4) (tt := tYes) rfl nd (pi_keys (pv 3)) (blkOk_by (own := [("_law_word", 4)]) (N := N__law_merged) (sc := defScope s__law_merged) (by decide +kernel)) (fun _ _ _ _ _ => (pg_name (i := 4) nd rfl (Or.inl rfl))) (fun _ _ _ _ _ => pts_nil) (fun _ _ _ _ _ => (pe_dget (hu_of hr) (pv 3) (pv 4) (fun _ _ => rfl))))) pa_nil) (pk_cons pe_bl pk_nil)))
      (pss_cons (ps_set (i := 7) nd rfl (Or.inr rfl) (pe_ifExp (pt_cmpR op_gt (pe_callB (k_len K) rfl fr.len_ (by decide +kernel) (pa_cons (pv 6) pa_nil)) (pv 0) (nomark _)) (pe_ix (k_ixL K) (pv 6) (pv 0) (fun _ _ => rfl)) pe_int))
      (pss_one (ps_ret (pe_callTy (k_tuple K) rfl fr.tuple_ (by decide +kernel) (pa_cons (pe_lc (own := [("_law_word", 4)]) (g := gName 4) rfl nd (k_iList K (pe_callB (c_sortedDk rfl) rfl fr.sorted_ (by decide +kernel) (pa_cons (pv 3) pa_nil))) (blkOk_by (own := [("_law_word", 4)]) (N := N__law_merged) (sc := defScope s__law_merged) (by decide +kernel)) (fun _ _ _ _ _ => (pg_name (i := 4) nd rfl (Or.inl rfl))) (fun _ _ _ _ _ => (pts_one (pt_cmpR op_gt (pe_dget (hu_of hr) (pv 3) (pv 4) (fun _ _ => rfl)) (pv 7) (nomark _)))) (fun _ _ _ _ _ => (pe_tup (pa_cons (pv 4) (pa_cons (pe_op op_sub (pe_dget (hu_of hr) (pv 3) (pv 4) (fun _ _ => rfl)) (pv 7)) pa_nil))))) pa_nil)))))))), ?_⟩
    try dsimp only [cxOf]
    have hlen := hv.len
    have h8 := hv.c8
    have hlen2 := hw.len
    have h1 := hv.c1
    have hpos : ∀ p ∈ ps ++ qs, 1 ≤ p.2 := fun p hp => (List.mem_append.mp hp).elim (hv.ok.pos p) (hw.ok.pos p)
    have hT := tab_ok hpos
    have hTl : (tabOf (ps ++ qs)).length ≤ 16 := by have := tabOf_len (ps ++ qs); rw [List.length_append] at this; omega
    obtain ⟨wa, xs, rfl, hs, hx, hl⟩ := bag_inv hdw
    tm_at "wp"
    refine ⟨v, ps, rfl, hd, hv.ok.tab.nd, by omega, fun a H2 ha0 s02 hd2 => ?_⟩
    tm_at "wp"
    refine w_onT (sqt_same s02 hs) ?_
    refine for_go (walk_tup (xs := xs)) (fun i σ H' => ∃ u z, σ = [some (.int c), some v, some (.ref wa), some (.ref a), u, z, none, none] ∧ Same H H' ∧ H' a = some (.dK (kvOf (tabOf (ps ++ qs.take i))))) ⟨none, none, rfl, s02, by rw [List.take_zero, List.append_nil, tabOf_self hv.ok.tab.nd]; exact hd2⟩ (fun i σ H' _ ⟨_, _, _, s, _⟩ => sqt_same s hs) ?_ ?_
    · rintro i y σ H3 H4 hi ⟨u, z, rfl, s3, hd3⟩ ⟨rfl, hy⟩
      obtain ⟨p, b, e1, rfl, hb⟩ := bag_get hx hy
      have hl3 : (tabOf (ps ++ qs.take i)).length ≤ 100 := by have := tabOf_len (ps ++ qs.take i); rw [List.length_append, List.length_take] at this; omega
      refine w_gtup (sqt_same s3 hb) rfl ?_
      tm_at "wp"
      refine w_isD hd3 ?_
      tm_at "wp"
      refine w_dgetk hd3 ?_
      rw [kv_get]
      tm_at "wp"
      refine w_dputk hd3 (by rw [kv_len]; exact sz_lt (by omega)) ?_
      tm_at "wp"
      refine ⟨_, _, rfl, same_mut s3 ha0, ?_⟩
      rw [kv_put, upd_same, take_succ_snoc e1, ← List.append_assoc, tabOf_snoc]
      rfl
    rintro σ H3 ⟨u, z, rfl, s03, hd3⟩
    rw [List.take_of_length_le (by omega)] at hd3
    generalize eT : tabOf (ps ++ qs) = T at hT hTl hd3
    tm_at "wp"
    refine w_lockE hd3 fun od => ?_
    tm_at "wp"
    refine w_onK upd_same ?_
    intro D hD
    have hDa : D ≠ a := fun e => by rw [e, upd_same] at hD; cases hD
    refine lc_map walk_keys (n := (kvOf T).length) (by rw [kv_len]; omega) (fun i y => ∃ p, T[i]? = some p ∧ y = .int p.2) hD (fun _ s' => s' _ _ upd_same) ?_ ?_ mono_gname
    · rintro i x H4 H5 hi s4 ⟨rfl, kk, vv, e1, rfl⟩ Qy hq
      obtain ⟨p, e2, rfl, rfl⟩ := kv_at e1
      refine w_gname ⟨rfl, ?_⟩
      tm_at "wp"
      refine w_dgetR (.inr ⟨od, s4 _ _ upd_same⟩) (kv_some (List.mem_map.mpr ⟨p, List.mem_of_getElem? e2, rfl⟩)) ?_
      rw [getT_mem hT.nd (List.mem_of_getElem? e2)]
      exact hq _ _ (Same.refl _) ⟨p, e2, rfl⟩
    intro acc H4 s4 _ hacc hal hf
    rw [kv_len] at hal
    have e : acc = (T.map (·.2)).map V.int := by rw [List.map_map]; exact acc_map hal hf
    rw [e] at hacc
    have s34 : Same H3 (upd H4 a (.dK (kvOf T))) := lock_back hd3 s4
    refine ⟨s4 _ _ upd_same, ?_⟩
    have hacc' : (upd H4 a (.dK (kvOf T))) D = some (.lst ((T.map (·.2)).map V.int)) := by rw [upd_ne hDa]; exact hacc
    have ha4 : (upd H4 a (.dK (kvOf T))) a = some (.dK (kvOf T)) := upd_same
    generalize upd H4 a (.dK (kvOf T)) = H5 at s34 hacc' ha4
    tm_at "wp"
    refine w_sortedR (SqL.of hacc') ?_
    intro ns rl hperm hdesc hrl
    have s05 : Same H (upd H5 rl (.lst (ns.map V.int))) := same_step (s03.trans s34) hrl
    have ha5 : (upd H5 rl (.lst (ns.map V.int))) a = some (.dK (kvOf T)) := hp_new ha4 hrl
    have hr5 : (upd H5 rl (.lst (ns.map V.int))) rl = some (.lst (ns.map V.int)) := upd_same
    generalize upd H5 rl (.lst (ns.map V.int)) = H6 at s05 hr5 ha5
    have cutR : CutR T c (if c < (ns.length : Int) then ns.getD c.toNat 0 else 0) := ⟨ns, hperm, hdesc, rfl⟩
    obtain ⟨cn, rfl⟩ := Int.eq_ofNat_of_zero_le (show 0 ≤ c by omega)
    refine w_gname ?_
    refine w_nx ?_
    refine w_cut (fun σ H' => H' = H6 ∧ ∃ x, σ = [some (.int ((cn : Nat) : Int)), some v, some (.ref wa), some (.ref a), u, z, some (.ref rl), some (.int x)] ∧ x = (if (cn : Int) < (ns.length : Int) then ns.getD (cn : Int).toNat 0 else 0)) ?_ ?_
    · rintro σ H7 ⟨rfl, x, rfl, ex⟩
      rw [← ex] at cutR
      have hx0 := cut_nonneg hT (by omega) cutR
      tm_at "wp"
      refine w_sortedDk ha5 (by omega) ?_
      intro ys q hperm2 hsorted hq
      have asc := sorted_asc hsorted (hperm2.nodup_iff.mpr hT.nd)
      have hyl : ys.length = T.length := by rw [hperm2.length_eq, List.length_map]
      refine w_onL (SqL.of upd_same) ?_
      intro D0 hD0
      refine lc_fmd K (walk_list (xs := ys.map V.str)) ys (fun y => if 0 < getT T y - x then some (pairD (y, getT T y - x)) else none) (by rw [List.length_map]) (by rw [List.length_map]; omega) (fun y d e => ?_) hD0 (fun _ s => s.seq (SqL.of upd_same)) ?_ ?_
      · by_cases zz : 0 < getT T y - x
        · rw [if_pos zz] at e; cases e; rfl
        · rw [if_neg zz] at e; cases e
      · rintro i y n H8 H9 hi s8 ⟨rfl, hy⟩ Qy Qn hq1 hq2
        have ey : y = .str n := by rw [List.getElem?_map, hi] at hy; exact (Option.some.inj hy).symm
        subst ey
        have hin : n ∈ T.map (·.1) := hperm2.mem_iff.mp (List.mem_of_getElem? hi)
        have ha8 : H9 a = some (.dK (kvOf T)) := s8 _ _ (hp_new ha5 hq)
        refine w_gname ⟨rfl, ?_⟩
        tm_at "wp"
        refine w_dgetc ha8 (kv_some hin) ?_
        tm_at "wp"
        refine w_ited (fun h => ?_) (fun h => ?_)
        · tm_at "wp"
          refine w_dgetc ha8 (kv_some hin) ?_
          tm_at "wp"
          rename_i TT hTT
          exact hq1 _ _ _ (same_new hTT) (if_pos (by omega)) (pair_mk (SqT.of upd_same))
        · tm_at "wp"
          exact hq2 _ (Same.refl _) (if_neg (by omega))
      · intro acc2 H8 s8 _ hacc2 hdp
        have e : (ys.filterMap fun y => if 0 < getT T y - x then some (pairD (y, getT T y - x)) else none) = (canF (fun n => getT T n - x) ys).map pairD := by
          unfold canF
          rw [List.map_filterMap]
          congr 1
          funext y
          by_cases zz : 0 < getT T y - x
          · rw [if_pos zz, if_pos zz]; rfl
          · rw [if_neg zz, if_neg zz]; rfl
        rw [e] at hdp
        tm_at "wp"
        refine w_tupL (SqL.of hacc2) ?_
        intro TT hTT
        have hcan := canF_can2 (t := T) (f := fun n => getT T n - x) (fun n hn => by
          rw [getT_out (fun w hw eq => hn (List.mem_map.mpr ⟨w, hw, eq⟩))]; omega) hperm2 asc
        refine k (.ref TT) _ _ ((((s05.trans (same_new hq)).trans s8)).trans (same_new hTT)) (.tup (SqT.of upd_same) (dps_same (same_new hTT) hdp)) ⟨x, by rw [eT]; exact cutR, hcan.asc, hcan.pos, fun n => ?_⟩
        rw [hcan.cnt n]
        show posI (getT T n - x) = posI (cntC (ps ++ qs) n - x)
        rw [← eT, getT_tabOf]
    · intro hx
      tm_at "wp"
      refine w_lenL (SqL.of hr5) ?_
      tm_at "wp"
      rw [List.length_map]
      refine w_ited (fun h => ?_) (fun h => ?_)
      · tm_at "wp"
        have hc : cn < ns.length := by omega
        refine w_ixL (v := .int (ns.getD cn 0)) (SqL.of hr5) (atI_nat (by simp [List.getD, hc])) ?_
        refine w_gname (hx _ _ ⟨rfl, _, rfl, ?_⟩)
        rw [if_pos h]; rfl
      · refine w_c ?_
        refine w_gname (hx _ _ ⟨rfl, _, rfl, ?_⟩)
        rw [if_neg h]
theorem ok__law_text {P : Program} {w : World} {K : PySem.W.Frag} {mg : Str → Option Value} {base : Heap} (fr : Fre mg) (D : Dfd K mg "_law_text" s__law_text) : Has P w K mg base CX0 1 "_law_text" s__law_text ["_law_bag_here"] (sp__law_text K) := by
  refine D.has sc__law_text (fun vs H Q E h => ?_) (fun cdv A outer s H vs Q E hr hg h => ?_)
  · obtain ⟨v, ps, rfl, _⟩ := h; rfl
  · obtain ⟨v, ps, rfl, hd, hb, hn, k⟩ := h
    have nd := sc__law_text.nd
    refine ⟨_, PSs.nox (pss_cons (ps_setLc (i := 1) (own := [("_law_word", 2), ("_law_many", 3)]) (g := gTup K 2 (gCons (gName 2) (gCons (gName 3) gNil))) (tt := tYes) rfl nd rfl rfl (sw_true rfl rfl rfl (by decide +kernel)) (k_iTup K (pv 0)) (blkOk_by (own := [("_law_word", 2), ("_law_many", 3)]) (N := N__law_text) (sc := defScope s__law_text) (by decide +kernel)) (fun _ _ _ _ _ => (k_gtup K rfl (pgs_cons (pg_name (i := 2) nd rfl (Or.inl rfl)) (pgs_cons (pg_name (i := 3) nd rfl (Or.inl rfl)) pgs_nil)))) (fun _ _ _ _ _ => pts_nil) (fun _ _ _ _ _ => (pe_op o_addS (pe_op o_addS (pv 2) pe_str) (pe_callTy c_strI rfl fr.str_ (by decide +kernel) (pa_cons (pv 3) pa_nil)))))
      (pss_one (ps_ret (pe_ifExp (pt_cmpR (k_neE K (u66 hr)) (pv 1) (pe_lst pa_nil) (nomark _)) (k_join K pe_str (pv 1)) pe_str)))), ?_⟩
    try dsimp only [cxOf]
    obtain ⟨a, xs, rfl, hs, hx, hl⟩ := bag_inv hd
    tm_at "wp"
    refine w_onT hs ?_
    intro D0 hD
    refine lc_map walk_tup (n := xs.length) (by omega) (fun i y => ∃ p, ps[i]? = some p ∧ y = .str (ptS p)) hD (fun _ s => sqt_same s hs) ?_ ?_ mono_gpair
    · rintro i y H1 H2 hi s ⟨rfl, hy⟩ Qy hq
      obtain ⟨p, b, e1, rfl, hb'⟩ := bag_get hx hy
      obtain ⟨h1, h2, h3⟩ := hb p (List.mem_of_getElem? e1)
      have hpl := (ptS_len h1 h2 h3).2
      have hnl := (isName_len h1).2
      refine w_gtup (sqt_same s hb') rfl ?_
      tm_at "wp"
      refine ⟨rfl, ?_⟩
      tm_at "wp"
      refine w_addS (by have : Str.length (":" : Str) = 1 := (by decide +kernel); exact sz_le (by omega)) ?_
      tm_at "wp"
      refine w_strI h2 h3 ?_
      refine w_addS (by have e : (ptS p).length = _ := app_len (p.1 ++ (":" : Str)) (intS p.2); exact sz_le (by omega)) ?_
      exact hq _ _ (Same.refl _) ⟨p, e1, rfl⟩
    intro acc H1 s1 _ hacc hl2 hf
    have e : acc = (ps.map ptS).map V.str := by
      rw [List.map_map]
      exact acc_map (by omega) hf
    have hj := parts_len hb
    have hjl := join_len hb
    tm_at "wp"
    rename_i E hE
    refine w_neE (SqL.of (hp_new hacc hE)) (SqL.of upd_same) ?_
    have s2 := s1.trans (same_new hE (u := HO.lst []))
    have hacc2 := hp_new hacc hE (u := HO.lst [])
    rw [e] at hacc2 ⊢
    refine w_bl ?_
    by_cases h0 : ps = []
    · subst h0
      rw [if_neg (by decide)]
      tm_at "wp"
      exact k _ s2
    · rw [if_pos (by cases ps with
        | nil => exact absurd rfl h0
        | cons p r => rfl)]
      tm_at "wp"
      refine w_join (SqL.of hacc2) (by omega) ?_
      have ec : cText ps = Txt.join (" " : Str) (ps.map ptS) := by unfold cText; rw [if_neg h0]
      rw [← ec]
      exact k _ s2
theorem ok__law_now {P : Program} {w : World} {K : PySem.W.Frag} {mg : Str → Option Value} {base : Heap} (fr : Fre mg) (D : Dfd K mg "_law_now" s__law_now)
    (h__law_merged : Has P w K mg base CX0 2 "_law_merged" s__law_merged ["_law_width", "_law_one_bag", "_law_more_bag"] (sp__law_merged K))
    (h__law_flat : Has P w K mg base CX0 1 "_law_flat" s__law_flat ["_law_held_here"] (sp__law_flat K))
    (h__law_run : Has P w K mg base CX0 1 "_law_run" s__law_run ["_law_width", "_law_held_here", "_law_word", "_law_often_here"] (sp__law_run K))
    (h__law_held : Has P w K mg base CX0 1 "_law_held" s__law_held ["_law_bag_here"] (sp__law_held K)) : Has P w K mg base CX0 3 "_law_now" s__law_now ["_law_width", "_law_state"] (sp__law_now K) := by
  refine D.has sc__law_now (fun vs H Q E h => ?_) (fun cdv A outer s H vs Q E hr hg h => ?_)
  · obtain ⟨c, v, s, rfl, _⟩ := h; rfl
  · obtain ⟨c, v, s, rfl, hd, hs, hl, k⟩ := h
    have nd := sc__law_now.nd
    refine ⟨_, PSs.nox (pss_cons (ps_set (i := 2) nd rfl (Or.inl rfl) (pe_ix (k_ixT K) (pv 1) pe_int (fun _ _ => rfl)))
      (pss_cons (ps_for PassesOwn.never rfl (k_iList K (pe_ix (k_ixT K) (pv 1) pe_int (fun _ _ => rfl))) (pg_name (i := 3) nd rfl (Or.inl rfl))
        (pss_one (ps_if (pt_val (pe_callB (k_isi K) rfl fr.isinstance_ (by decide +kernel) (pa_cons (pv 3) (pa_cons (pe_bltn (v := .ty "list") rfl fr.list_ boot_list rfl) pa_nil)))) (pss_one (ps_set (i := 2) nd rfl (Or.inl rfl) (pe_fn h__law_merged pb__law_merged (hr.mono (by decide)) hg rfl pass0 (pa_cons (pv 0) (pa_cons (pv 2) (pa_cons (pe_ix (k_ixQ K) (pv 3) pe_int (fun _ _ => rfl)) pa_nil)))))) (pss_one (ps_set (i := 2) nd rfl (Or.inl rfl) (pe_fn h__law_flat pb__law_flat (hr.mono (by decide)) hg rfl pass0 (pa_cons (pe_ix (k_ixT K) (pe_fn h__law_run pb__law_run (hr.mono (by decide)) hg rfl pass0 (pa_cons (pv 0) (pa_cons (pe_fn h__law_held pb__law_held (hr.mono (by decide)) hg rfl pass0 (pa_cons (pv 2) pa_nil)) (pa_cons (pe_ix (k_ixQ K) (pv 3) pe_int (fun _ _ => rfl)) (pa_cons (pe_ix (k_ixQ K) (pv 3) pe_int (fun _ _ => rfl)) pa_nil))))) pe_int (fun _ _ => rfl)) pa_nil)))))))
      (pss_one (ps_ret (pv 2))))), ?_⟩
    try dsimp only [cxOf]
    have est : ∀ a0 a1 : V, L2.start N__law_now [a0, a1] = [some a0, some a1, none, none] := fun _ _ => rfl
    simp only [est]
    clear est
    obtain ⟨T, b, l, xs, rfl, hT, hb, hls, hx⟩ := st_inv hd
    obtain ⟨hv, hbn, hrv⟩ := hs
    have hlen : xs.length = s.2.length := by rw [dps_len hx, List.length_map]
    tm_at "vp"
    refine w_ixT hT (v := b) (at_of' (j := 0) rfl rfl) ?_
    tm_at "vp"
    refine w_ixT hT (v := .ref l) (at_of' (j := 1) rfl rfl) ?_
    refine w_onL hls ?_
    refine for_go (walk_list (xs := xs)) (fun i σ H' => ∃ (u3 : Option V) (w : V), σ = [some (.int c), some (.ref T), some w, u3] ∧ Same H H' ∧ Dp K H' w (bagD (nowT c s.1 (s.2.take i))) ∧ SumV c (nowT c s.1 (s.2.take i)) ∧ sumC (nowT c s.1 (s.2.take i)) ≤ 10 ^ 32 + (i : Int) * 10 ^ 32) ⟨_, b, rfl, Same.refl _, hb, hv, by show sumC s.1 ≤ _; omega⟩ (fun i σ H' _ ⟨_, _, _, s1, _⟩ => s1.seq hls) ?_ ?_
    rotate_left
    · rintro σ Hz ⟨u2, w, rfl, sz, h1, h2, h3⟩
      rw [hlen, List.take_length] at h1 h2 h3
      dsimp only
      tm_at "vp"
      exact k _ _ sz h1 h2 (by
        have : (s.2.length : Int) * 10 ^ 32 ≤ 100 * 10 ^ 32 := Int.mul_le_mul_of_nonneg_right (by omega) (by decide)
        have e : (10 : Int) ^ 32 + 100 * 10 ^ 32 ≤ 10 ^ 36 := by decide
        omega)
    rintro i y σ Ha Hb hi ⟨u2, w, rfl, sa, h1, h2, h3⟩ ⟨rfl, hy⟩
    obtain ⟨d, ed, hrow⟩ := dps_get hx hy
    rw [List.getElem?_map] at ed
    obtain ⟨row, er, rfl⟩ := Option.map_eq_some_iff.mp ed
    have hrV := hrv row (List.mem_of_getElem? er)
    have hrow := dp_same sa hrow
    have hi8 := h2.c8
    refine w_gname ?_
    simp only [List.set_cons_zero, List.set_cons_succ]
    have fin : ∀ (w' : V) (q : Bag) (H' : Hp), Same Hb H' → Dp K H' w' (bagD q) → StepR c (nowT c s.1 (s.2.take i)) row q → ∃ (u3 : Option V) (w : V), [some (.int c), some (.ref T), some w', some y] = [some (.int c), some (.ref T), some w, u3] ∧ Same H H' ∧ Dp K H' w (bagD (nowT c s.1 (s.2.take (i + 1)))) ∧ SumV c (nowT c s.1 (s.2.take (i + 1))) ∧ sumC (nowT c s.1 (s.2.take (i + 1))) ≤ 10 ^ 32 + ((i + 1 : Nat) : Int) * 10 ^ 32 := fun w' q H' s' ho hst => by
      obtain ⟨e1, e2, e3⟩ := step_all (i := i) hrV h2 h3 hst
      rw [nowT_take er, e1]
      exact ⟨_, w', rfl, sa.trans s', ho, e2, e3⟩
    generalize nowT c s.1 (s.2.take i) = p at *
    cases row with
    | sum qs =>
      tm_at "vp"
      refine w_isi (ty_dp hrow) (b := true) rfl ?_
      obtain ⟨lq, bq, rfl, hlq, hbq⟩ := sum_inv hrow
      tm_at "vp"
      refine w_ixQL hlq (v := bq) (at_of' (j := 0) rfl rfl) ?_
      tm_at "vp"
      refine ⟨w, bq, c, p, qs, rfl, h1, h2, hbq, hrV.1, fun v' r H' s' hd' hm => ?_⟩
      tm_at "vp"
      exact fin v' r H' s' hd' ⟨merge_okV h2 hrV.1 hm, hm⟩
    | run n m =>
      obtain ⟨P, rfl, hP⟩ := pair_inv hrow
      tm_at "vp"
      refine w_isi (ty_dp hrow) (b := false) rfl ?_
      tm_at "vp"
      obtain ⟨hn, hm, _⟩ := hrV
      have hpl := h2.len
      refine ⟨w, p, rfl, h1, h2.ok.tab.nd, by omega, fun a H1 ha s1 hd1 => ?_⟩
      tm_at "vp"
      refine w_ixQT (sqt_same s1 hP) (v := .str n) (at_of' (j := 0) rfl rfl) ?_
      tm_at "vp"
      refine w_ixQT (sqt_same s1 hP) (v := .int m) (at_of' (j := 1) rfl rfl) ?_
      tm_at "vp"
      refine ⟨c, a, p, n, m, rfl, hd1, h2.arr, by omega, hm, fun v2 P2 b2 H2 s2 e2 hs2 _ hk => ?_⟩
      subst e2
      tm_at "vp"
      refine w_ixT hs2 (v := .ref b2) (at_of' (j := 0) rfl rfl) ?_
      tm_at "vp"
      have okA := arrT_ok (n := n) h2.arr hm
      have hal := okA.len
      refine ⟨b2, _, rfl, hk, okA.tab.nd, by omega, tab_pos okA.tab, fun v' q H' s' hd' hcan _ hmem => ?_⟩
      tm_at "vp"
      exact fin v' q H' (s1.trans (s2.trans s')) hd' (arr_can h2 hn hm hcan hmem)
theorem ok__law_plain {P : Program} {w : World} {K : PySem.W.Frag} {mg : Str → Option Value} {base : Heap} (fr : Fre mg) (D : Dfd K mg "_law_plain" s__law_plain)
    (h__law_draw : Has P w K mg base CX0 1 "_law_draw" s__law_draw ["_law_pool_here", "_law_many"] (sp__law_draw K))
    (h__law_bag : Has P w K mg base CX0 3 "_law_bag" s__law_bag ["_law_pool_here", "_law_words_here", "_law_most"] (sp__law_bag K))
    (h__law_often : Has P w K mg base CX0 2 "_law_often" s__law_often ["_law_pool_here"] (sp__law_often K)) : Has P w K mg base CX0 4 "_law_plain" s__law_plain ["_law_pool_here", "_law_width", "_law_words_here", "_law_size"] (sp__law_plain K) := by
  refine D.has sc__law_plain (fun vs H Q E h => ?_) (fun cdv A outer s H vs Q E hr hg h => ?_)
  · obtain ⟨p, a, ws, c, n, D, rfl, _⟩ := h; rfl
  · obtain ⟨p, a, ws, c, n, D, rfl, hp, hs, hw, hl1, hl12, c1, c8, hn, hD, k⟩ := h
    have nd := sc__law_plain.nd
    refine ⟨_, PSs.nox (pss_cons (ps_par3 (i := 4) (j := 5) (l := 6) rfl nd rfl rfl rfl (by decide) (by decide) (by decide) rfl rfl rfl (pa_cons (pe_fn h__law_draw pb__law_draw (hr.mono (by decide)) hg rfl pass0 (pa_cons (pv 0) (pa_cons pe_int pa_nil))) (pa_cons (pe_ix (k_ixL K) (pv 2) (pe_fn h__law_draw pb__law_draw (hr.mono (by decide)) hg rfl pass0 (pa_cons (pv 0) (pa_cons (pe_callB (k_len K) rfl fr.len_ (by decide +kernel) (pa_cons (pv 2) pa_nil)) pa_nil))) (fun _ _ => rfl)) (pa_cons (pe_fn h__law_draw pb__law_draw (hr.mono (by decide)) hg rfl pass0 (pa_cons (pv 0) (pa_cons (pe_op op_add (pv 3) pe_int) pa_nil))) pa_nil))) rfl)
      (pss_cons (ps_if (pt_cmpR op_lt (pv 4) pe_int (nomark _)) (pss_one (ps_ret (pe_tup (pa_cons (pe_ix (k_ixL K) (pe_lst (pa_cons pe_str (pa_cons pe_str pa_nil))) (pv 4) (fun _ _ => rfl)) (pa_cons (pe_lst (pa_cons (pe_slice (k_slT K) (pe_fn h__law_bag pb__law_bag (hr.mono (by decide)) hg rfl pass0 (pa_cons (pv 0) (pa_cons (pv 2) (pa_cons pe_int pa_nil)))) po_none (po_some (pv 1))) pa_nil)) pa_nil))))) pss_nil)
      (pss_cons (ps_if (PW.pt (pw_and (pt_cmpR op_eq (pv 4) pe_int (nomark _)) (pw_and1 (pt_cmpR op_lt (pv 6) (pv 3) (nomark _))))) (pss_one (ps_ret (pe_tup (pa_cons pe_str (pa_cons (pv 6) pa_nil))))) pss_nil)
      (pss_one (ps_ret (pe_ix (k_ixL K) (pe_lst (pa_cons (pe_tup (pa_cons pe_str (pa_cons (pv 5) (pa_cons (pe_fn h__law_often pb__law_often (hr.mono (by decide)) hg rfl pass0 (pa_cons (pv 0) pa_nil)) pa_nil)))) (pa_cons (pe_tup (pa_cons pe_str (pa_cons (pv 6) (pa_cons (pv 5) (pa_cons (pe_fn h__law_often pb__law_often (hr.mono (by decide)) hg rfl pass0 (pa_cons (pv 0) pa_nil)) pa_nil))))) pa_nil))) (pe_op op_odd (pv 4) pe_int) (fun _ _ => rfl))))))), ?_⟩
    try dsimp only [cxOf]
    have est : ∀ a0 a1 a2 a3 : V, L2.start N__law_plain [a0, a1, a2, a3] = [some a0, some a1, some a2, some a3, none, none, none] := fun _ _ _ _ => rfl
    simp only [est]
    clear est
    have hwl : ws.length ≤ 12 := hl12
    have kf : ∀ v' act H', Same H H' → flatD (actD act) = true → Dp K H' v' (actD act) → ActV c n act → (∀ x ∈ actN act, x ∈ ws) → Q v' H' := fun v' act H' s f d => k v' act H' s (dp_flat (off_t (hD.same s)) d f)
    tm_at "vp"
    refine ⟨p, 8, rfl, hp, by decide, by decide, fun way H1 w0 w1 s1 => ?_⟩
    obtain ⟨wn, rfl⟩ := Int.eq_ofNat_of_zero_le w0
    have hs1 := s1.seq hs
    tm_at "vp"
    refine w_lenL hs1 ?_
    tm_at "vp"
    rw [List.length_map]
    refine ⟨p, _, rfl, s1 _ _ hp, by omega, by omega, fun wi H2 i0 i1 s2 => ?_⟩
    obtain ⟨ii, rfl⟩ := Int.eq_ofNat_of_zero_le i0
    have hii : ii < ws.length := by omega
    have hs2 := s2.seq hs1
    have hp2 := (s1.trans s2) _ _ hp
    refine w_ixL hs2 (v := .str ws[ii]) (at_of' (j := ii) rfl (by rw [List.getElem?_map, List.getElem?_eq_getElem hii]; rfl)) ?_
    tm_at "vp"
    refine ⟨p, _, rfl, hp2, by omega, by omega, fun pl H3 p0 p1 s3 => ?_⟩
    obtain ⟨pn, rfl⟩ := Int.eq_ofNat_of_zero_le p0
    have s03 := s1.trans (s2.trans s3)
    have hs3 := s3.seq hs2
    have hp3 := s3 _ _ hp2
    have hwm : ws[ii] ∈ ws := List.getElem_mem hii
    have hnam := hw.nam _ hwm
    generalize ws[ii] = x at *
    clear hs hp hs1 s1 s2 s3 hs2 hp2 hii i0 i1 w0 p0
    tm_at "vp"
    obtain ⟨cn, rfl⟩ := Int.eq_ofNat_of_zero_le (show 0 ≤ c by omega)
    simp only [List.set_cons_zero, List.set_cons_succ]
    refine w_ited (fun h => ?_) (fun h => ?_)
    · obtain ⟨wd, f, hwd, hf⟩ : ∃ (wd : Str) (f : Bag → Act), [V.str "start", .str "merge"][wn]? = some (.str wd) ∧ ∀ qs, actD (f qs) = .tuple [.str wd, .list [bagD qs]] ∧ (SumV (cn : Nat) qs ∧ sumC qs ≤ 10 ^ 32 → ActV (cn : Nat) n (f qs)) ∧ actN (f qs) = [] := by
        have : wn < 2 := by omega
        match wn, this with
        | 0, _ => exact ⟨"start", .start, rfl, fun qs => ⟨rfl, id, rfl⟩⟩
        | 1, _ => exact ⟨"merge", .merge, rfl, fun qs => ⟨rfl, id, rfl⟩⟩
      tm_at "vp"
      rename_i L hL
      have s4 := same_new hL (u := HO.lst [V.str "start", .str "merge"])
      refine w_ixL (SqL.of upd_same) (v := .str wd) (at_of' (j := wn) rfl hwd) ?_
      generalize upd H3 L (HO.lst [V.str "start", .str "merge"]) = H4 at *
      tm_at "vp"
      refine ⟨p, a, ws, 0, ws.length, rfl, s4 _ _ hp3, s4.seq hs3, hw, by omega, by decide, by decide, fun bv ps H5 s5 hbd hbo hbm hbl hb30 _ => ?_⟩
      tm_at "vp"
      refine w_slD (ds := ps.map pairD) hbd fun cv H6 s6 hcv => ?_
      rw [cutL_hi, ← List.map_take] at hcv
      have s46 := s4.trans (s5.trans s6)
      tm_at "vp"
      rename_i L2 hL2 T hT
      have s8 := (same_new hL2 (u := HO.lst [cv])).trans (same_new hT (u := HO.tup [.str wd, .ref L2]))
      have f2 := hp_new (upd_same (H := H6) (a := L2) (o := HO.lst [cv])) hT (u := HO.tup [.str wd, .ref L2])
      obtain ⟨h1, h2, h3⟩ := hf (ps.take cn)
      have hlt : (ps.take cn).length ≤ cn := by rw [List.length_take]; omega
      have hsum : sumC (ps.take cn) ≤ 10 ^ 32 := by
        have := sum_le (10 ^ 30) (a := ps.take cn) fun q hq => hb30 q (List.mem_of_mem_take hq)
        have h9 : 10 ^ 30 * ((ps.take cn).length : Int) ≤ 10 ^ 30 * 8 := Int.mul_le_mul_of_nonneg_left (by omega) (by decide)
        have e : (10 : Int) ^ 30 * 8 ≤ 10 ^ 32 := by decide
        omega
      refine k (.ref T) (f (ps.take cn)) _ (s03.trans (s46.trans s8)) ?_ (h2 ⟨⟨c1, c8, hbo.take _, by omega⟩, hsum⟩) (by rw [h3]; nofun)
      rw [h1]
      have hDe := hD.same (s03.trans (s46.trans s8))
      exact .tup ((off_t hDe).sqt (SqT.of upd_same)) (.cons (.str _) (.cons (.lst (SqL.of (off_new hD (s03.trans s46) hL2 f2)) (.cons (dp_flat (off_t hDe) (dp_same s8 hcv) (flat_bag _)) .nil)) .nil))
    tm_at "vp"
    refine w_ited (fun h2 => ?_) (fun h2 => ?_)
    tm_at "vp"
    refine w_ited (fun h3 => ?_) (fun h3 => ?_)
    tm_at "vp"
    rename_i T hT
    exact kf (.ref T) (.remove pn) _ (s03.trans (same_new hT)) rfl (.tup (SqT.of upd_same) (.cons (.str _) (.cons (.int _) .nil))) (show pn < n by omega) nofun
    all_goals
      tm_at "vp"
      refine ⟨p, rfl, hp3, fun m1 H4 m10 m11 s4 => ?_⟩
      tm_at "vp"
      rename_i T1 hT1
      have s5 := same_new hT1 (u := HO.tup [.str "arrive", .str x, .int m1])
      have f5 := @upd_same H4 T1 (HO.tup [.str "arrive", .str x, .int m1])
      generalize upd H4 T1 (HO.tup [.str "arrive", .str x, .int m1]) = H5 at *
      refine ⟨p, rfl, (s4.trans s5) _ _ hp3, fun m2 H6 m20 m21 s6 => ?_⟩
      tm_at "vp"
      rename_i T2 hT2 L hL
      have s7 := (same_new hT2 (u := HO.tup [.str "insert", .int (pn : Nat), .str x, .int m2])).trans (same_new hL (u := HO.lst [.ref T1, .ref T2]))
      have f7 := hp_new (upd_same (H := H6) (a := T2) (o := HO.tup [.str "insert", .int (pn : Nat), .str x, .int m2])) hL (u := HO.lst [.ref T1, .ref T2])
      have g7 := @upd_same (upd H6 T2 (HO.tup [.str "insert", .int (pn : Nat), .str x, .int m2])) L (HO.lst [.ref T1, .ref T2])
      generalize upd (upd H6 T2 (HO.tup [.str "insert", .int (pn : Nat), .str x, .int m2])) L (HO.lst [.ref T1, .ref T2]) = H7 at *
      have f57 := (s6.trans s7) _ _ f5
      have s07 := s03.trans (s4.trans (s5.trans (s6.trans s7)))
      refine ⟨wn, rfl, rfl, ?_⟩
      have hw2 : wn % 2 = 0 ∨ wn % 2 = 1 := by omega
      rcases hw2 with e | e
      · refine w_ixL (SqL.of g7) (v := .ref T1) (at_of' (j := 0) (by rw [e] <;> rfl) rfl) ?_
        exact kf (.ref T1) (.arrive x m1) _ s07 rfl (.tup (SqT.of f57) (.cons (.str _) (.cons (.str _) (.cons (.int _) .nil)))) ⟨hnam, m10, Int.le_trans m11 (by decide)⟩ (fun z hz => by cases List.mem_singleton.mp hz; exact hwm)
      · refine w_ixL (SqL.of g7) (v := .ref T2) (at_of' (j := 1) (by rw [e] <;> rfl) rfl) ?_
        exact kf (.ref T2) (.insert pn x m2) _ s07 rfl (.tup (SqT.of f7) (.cons (.str _) (.cons (.int _) (.cons (.str _) (.cons (.int _) .nil))))) ⟨show pn ≤ n by omega, hnam, m20, Int.le_trans m21 (by decide)⟩ (fun z hz => by cases List.mem_singleton.mp hz; exact hwm)
theorem ok__law_done {P : Program} {w : World} {K : PySem.W.Frag} {mg : Str → Option Value} {base : Heap} (fr : Fre mg) (D : Dfd K mg "_law_done" s__law_done) : Has P w K mg base CX0 1 "_law_done" s__law_done ["_law_state", "_law_plain_here"] (sp__law_done K) := by
  refine D.has sc__law_done (fun vs H Q E h => ?_) (fun cdv A outer s H vs Q E hr hg h => ?_)
  · obtain ⟨v, w, c, s, a, D, rfl, _⟩ := h; rfl
  · obtain ⟨v, w, c, s, a, D, rfl, hd, hw, hv, hl, hD, k⟩ := h
    have nd := sc__law_done.nd
    refine ⟨_, PSs.nox (pss_cons (ps_asg (pv 0) (k_gtup K rfl (pgs_cons (pg_name (i := 2) nd rfl (Or.inl rfl)) (pgs_cons (pg_name (i := 3) nd rfl (Or.inl rfl)) pgs_nil))))
      (pss_cons (ps_if (pt_cmpR op_eq (pe_ix (k_ixT K) (pv 1) pe_int (fun _ _ => rfl)) pe_str (nomark _)) (pss_one (ps_ret (pe_tup (pa_cons (pe_ix (k_ixQ K) (pe_ix (k_ixT K) (pv 1) pe_int (fun _ _ => rfl)) pe_int (fun _ _ => rfl)) (pa_cons (pv 3) pa_nil))))) pss_nil)
      (pss_cons (ps_if (pt_cmpR op_eq (pe_ix (k_ixT K) (pv 1) pe_int (fun _ _ => rfl)) pe_str (nomark _)) (pss_one (ps_ret (pe_tup (pa_cons (pv 2) (pa_cons (pe_op op_cat (pe_slice (k_slL K) (pv 3) po_none (po_some (pe_ix (k_ixT K) (pv 1) pe_int (fun _ _ => rfl)))) (pe_slice (k_slL K) (pv 3) (po_some (pe_op op_add (pe_ix (k_ixT K) (pv 1) pe_int (fun _ _ => rfl)) pe_int)) po_none)) pa_nil))))) pss_nil)
      (pss_cons (ps_if (pt_cmpR op_eq (pe_ix (k_ixT K) (pv 1) pe_int (fun _ _ => rfl)) pe_str (nomark _)) (pss_one (ps_ret (pe_tup (pa_cons (pv 2) (pa_cons (pe_op op_cat (pe_op op_cat (pe_slice (k_slL K) (pv 3) po_none (po_some (pe_ix (k_ixT K) (pv 1) pe_int (fun _ _ => rfl)))) (pe_lst (pa_cons (pe_slice (k_slT K) (pv 1) (po_some pe_int) po_none) pa_nil))) (pe_slice (k_slL K) (pv 3) (po_some (pe_ix (k_ixT K) (pv 1) pe_int (fun _ _ => rfl))) po_none)) pa_nil))))) pss_nil)
      (pss_one (ps_ret (pe_tup (pa_cons (pv 2) (pa_cons (pe_op op_cat (pv 3) (pe_lst (pa_cons (pe_ifExp (pt_cmpR op_eq (pe_ix (k_ixT K) (pv 1) pe_int (fun _ _ => rfl)) pe_str (nomark _)) (pe_ix (k_ixT K) (pv 1) pe_int (fun _ _ => rfl)) (pe_slice (k_slT K) (pv 1) (po_some pe_int) po_none)) pa_nil))) pa_nil))))))))), ?_⟩
    try dsimp only [cxOf]
    have est : ∀ a0 a1 : V, L2.start N__law_done [a0, a1] = [some a0, some a1, none, none] := fun _ _ => rfl
    simp only [est]
    clear est
    obtain ⟨T, b, l, xs, rfl, hTo, hbo, hlso, hxo⟩ := hd
    obtain ⟨W, ys, rfl, hWo, hYo, hy0⟩ := act_inv hw
    have so : Same (Off D H) H := off_le
    have hT := sqt_same so hTo
    have hls := so _ _ hlso
    have hx := dps_same so hxo
    have hW := sqt_same so hWo
    have hY := actY_same so hYo
    have h0 : atI ys 0 = some (.str (actW a)) := at_of' (j := 0) rfl hy0
    have hlen : xs.length = s.2.length := by rw [dps_len hx, List.length_map]
    tm_at "vp"
    refine w_gtup hT rfl ?_
    tm_at "vp"
    refine w_ixT hW h0 ?_
    tm_at "vp"
    cases a with
    | start qs =>
      obtain ⟨lq, rfl, hq⟩ := hY
      obtain ⟨lqz, ez, hqo⟩ := hYo
      cases ez
      have hq' := hq
      obtain ⟨lq', bq, e1, hlq, hbq⟩ := sum_inv hq
      cases e1
      rw [if_pos (show decide (actW (.start qs) = ("start" : Str)) = true from (by decide +kernel : decide (("start" : Str) = ("start" : Str)) = true))]
      tm_at "vp"
      refine w_ixT hW (v := .ref lq) (at_of' (j := 1) rfl rfl) ?_
      tm_at "vp"
      refine w_ixQL hlq (v := bq) (at_of' (j := 0) rfl rfl) ?_
      tm_at "vp"
      rename_i e he
      have se := same_new he (u := HO.tup [bq, .ref l])
      exact k _ _ se ⟨e, bq, l, xs, rfl, (off_t (hD.same se)).sqt (SqT.of upd_same), dp_flat (off_t (hD.same se)) (dp_same se hbq) (flat_bag _), off_same se _ _ hlso, dps_same (off_same se) hxo⟩
    | remove i =>
      cases hY
      rw [if_neg (show ¬ decide (actW (.remove i) = ("start" : Str)) = true from (by decide +kernel : ¬ decide (("remove" : Str) = ("start" : Str)) = true))]
      tm_at "vp"
      refine w_ixT hW h0 ?_
      tm_at "vp"
      rw [if_pos (show decide (actW (.remove i) = ("remove" : Str)) = true from (by decide +kernel : decide (("remove" : Str) = ("remove" : Str)) = true))]
      tm_at "vp"
      refine w_ixT hW (v := .int (i : Nat)) (at_of' (j := 1) rfl rfl) ?_
      tm_at "vp"
      refine w_slL (SqL.of hls) fun p1 hp1 => ?_
      rw [cutV_take]
      have s1 := same_new hp1 (u := HO.lst (xs.take i))
      have f1 := @upd_same H p1 (HO.lst (xs.take i))
      generalize upd H p1 (HO.lst (xs.take i)) = H1 at *
      tm_at "vp"
      refine w_ixT (sqt_same s1 hW) (v := .int (i : Nat)) (at_of' (j := 1) rfl rfl) ?_
      tm_at "vp"
      rw [show ((i : Nat) : Int) + 1 = ((i + 1 : Nat) : Int) by omega]
      refine w_slL (SqL.of (s1 _ _ hls)) fun p2 hp2 => ?_
      rw [cutV_drop]
      have s2 := same_new hp2 (u := HO.lst (xs.drop (i + 1)))
      have f2 := @upd_same H1 p2 (HO.lst (xs.drop (i + 1)))
      generalize upd H1 p2 (HO.lst (xs.drop (i + 1))) = H2 at *
      refine w_cat (s2 _ _ f1) f2 (by rw [List.length_take, List.length_drop]; exact sz_le (by omega)) fun p3 hp3 => ?_
      have s3 := same_new hp3 (u := HO.lst (xs.take i ++ xs.drop (i + 1)))
      have f3 := @upd_same H2 p3 (HO.lst (xs.take i ++ xs.drop (i + 1)))
      generalize upd H2 p3 (HO.lst (xs.take i ++ xs.drop (i + 1))) = H3 at *
      tm_at "vp"
      rename_i e he
      have se := (s1.trans (s2.trans s3)).trans (same_new he (u := HO.tup [b, .ref p3]))
      have hDe := hD.same se
      refine k _ _ se ⟨e, b, p3, _, rfl, (off_t hDe).sqt (SqT.of upd_same), dp_same (off_same se) hbo, off_new hD (s1.trans s2) hp3 (hp_new f3 he), ?_⟩
      show DpAll K _ _ ((s.2.take i ++ s.2.drop (i + 1)).map rowD)
      rw [List.map_append, List.map_take, List.map_drop]
      exact dps_app (dps_take _ (dps_same (off_same se) hxo)) (dps_drop _ (dps_same (off_same se) hxo))
    | insert i n m =>
      cases hY
      rw [if_neg (show ¬ decide (actW (.insert i n m) = ("start" : Str)) = true from (by decide +kernel : ¬ decide (("insert" : Str) = ("start" : Str)) = true))]
      tm_at "vp"
      refine w_ixT hW h0 ?_
      tm_at "vp"
      rw [if_neg (show ¬ decide (actW (.insert i n m) = ("remove" : Str)) = true from (by decide +kernel : ¬ decide (("insert" : Str) = ("remove" : Str)) = true))]
      tm_at "vp"
      refine w_ixT hW h0 ?_
      tm_at "vp"
      rw [if_pos (show decide (actW (.insert i n m) = ("insert" : Str)) = true from (by decide +kernel : decide (("insert" : Str) = ("insert" : Str)) = true))]
      tm_at "vp"
      refine w_ixT hW (v := .int (i : Nat)) (at_of' (j := 1) rfl rfl) ?_
      tm_at "vp"
      refine w_slL (SqL.of hls) fun p1 hp1 => ?_
      rw [cutV_take]
      have s1 := same_new hp1 (u := HO.lst (xs.take i))
      have f1 := @upd_same H p1 (HO.lst (xs.take i))
      generalize upd H p1 (HO.lst (xs.take i)) = H1 at *
      tm_at "vp"
      refine w_slG (sqt_same s1 hW) fun P H2 s2 hP => ?_
      tm_at "vp"
      rename_i p2 hp2
      have s3 := same_new hp2 (u := HO.lst [.ref P])
      have f3 := @upd_same H2 p2 (HO.lst [.ref P])
      generalize upd H2 p2 (HO.lst [.ref P]) = H3 at *
      refine w_cat ((s2.trans s3) _ _ f1) f3 (by rw [List.length_take]; exact sz_le (by show _ + 1 ≤ _; omega)) fun p4 hp4 => ?_
      have s4 := same_new hp4 (u := HO.lst (xs.take i ++ [.ref P]))
      have f4 := @upd_same H3 p4 (HO.lst (xs.take i ++ [.ref P]))
      generalize upd H3 p4 (HO.lst (xs.take i ++ [.ref P])) = H4 at *
      have s04 := s1.trans (s2.trans (s3.trans s4))
      tm_at "vp"
      refine w_ixT (sqt_same s04 hW) (v := .int (i : Nat)) (at_of' (j := 1) rfl rfl) ?_
      tm_at "vp"
      refine w_slL (SqL.of (s04 _ _ hls)) fun p5 hp5 => ?_
      rw [cutV_drop]
      have s5 := same_new hp5 (u := HO.lst (xs.drop i))
      have f5 := @upd_same H4 p5 (HO.lst (xs.drop i))
      generalize upd H4 p5 (HO.lst (xs.drop i)) = H5 at *
      refine w_cat (s5 _ _ f4) f5 (by rw [List.length_append, List.length_take, List.length_drop]; exact sz_le (by show _ + 1 + _ ≤ _; omega)) fun p6 hp6 => ?_
      have s6 := same_new hp6 (u := HO.lst ((xs.take i ++ [.ref P]) ++ xs.drop i))
      have f6 := @upd_same H5 p6 (HO.lst ((xs.take i ++ [.ref P]) ++ xs.drop i))
      generalize upd H5 p6 (HO.lst ((xs.take i ++ [.ref P]) ++ xs.drop i)) = H6 at *
      tm_at "vp"
      rename_i e he
      have s06 := s04.trans (s5.trans s6)
      have se := s06.trans (same_new he (u := HO.tup [b, .ref p6]))
      have s2e := (s3.trans (s4.trans (s5.trans s6))).trans (same_new he (u := HO.tup [b, .ref p6]))
      have hDe := hD.same se
      refine k _ _ se ⟨e, b, p6, _, rfl, (off_t hDe).sqt (SqT.of upd_same), dp_same (off_same se) hbo, off_new hD (s04.trans s5) hp6 (hp_new f6 he), ?_⟩
      show DpAll K _ _ ((s.2.take i ++ [Row.run n m] ++ s.2.drop i).map rowD)
      rw [List.map_append, List.map_append, List.map_take, List.map_drop]
      exact dps_app (dps_app (dps_take _ (dps_same (off_same se) hxo)) (.cons (show Dp K _ (.ref P) (pairD (n, m)) from dp_flat (off_t hDe) (pair_mk (sqt_same s2e hP)) rfl) .nil)) (dps_drop _ (dps_same (off_same se) hxo))
    | arrive n m =>
      cases hY
      rw [if_neg (show ¬ decide (actW (.arrive n m) = ("start" : Str)) = true from (by decide +kernel : ¬ decide (("arrive" : Str) = ("start" : Str)) = true))]
      tm_at "vp"
      refine w_ixT hW h0 ?_
      tm_at "vp"
      rw [if_neg (show ¬ decide (actW (.arrive n m) = ("remove" : Str)) = true from (by decide +kernel : ¬ decide (("arrive" : Str) = ("remove" : Str)) = true))]
      tm_at "vp"
      refine w_ixT hW h0 ?_
      tm_at "vp"
      rw [if_neg (show ¬ decide (actW (.arrive n m) = ("insert" : Str)) = true from (by decide +kernel : ¬ decide (("arrive" : Str) = ("insert" : Str)) = true))]
      tm_at "vp"
      refine w_ixT hW h0 ?_
      tm_at "vp"
      rw [if_neg (show ¬ decide (actW (.arrive n m) = ("merge" : Str)) = true from (by decide +kernel : ¬ decide (("arrive" : Str) = ("merge" : Str)) = true))]
      tm_at "vp"
      refine w_slG hW fun P H2 s2 hP => ?_
      tm_at "vp"
      rename_i p2 hp2
      have s3 := same_new hp2 (u := HO.lst [.ref P])
      have f3 := @upd_same H2 p2 (HO.lst [.ref P])
      generalize upd H2 p2 (HO.lst [.ref P]) = H3 at *
      refine w_cat ((s2.trans s3) _ _ hls) f3 (by exact sz_le (by show _ + 1 ≤ _; omega)) fun p4 hp4 => ?_
      have s4 := same_new hp4 (u := HO.lst (xs ++ [.ref P]))
      have f4 := @upd_same H3 p4 (HO.lst (xs ++ [.ref P]))
      generalize upd H3 p4 (HO.lst (xs ++ [.ref P])) = H4 at *
      tm_at "vp"
      rename_i e he
      have se := (s2.trans (s3.trans s4)).trans (same_new he (u := HO.tup [b, .ref p4]))
      have s2e := (s3.trans s4).trans (same_new he (u := HO.tup [b, .ref p4]))
      have hDe := hD.same se
      refine k _ _ se ⟨e, b, p4, _, rfl, (off_t hDe).sqt (SqT.of upd_same), dp_same (off_same se) hbo, off_new hD (s2.trans s3) hp4 (hp_new f4 he), ?_⟩
      show DpAll K _ _ ((s.2 ++ [Row.run n m]).map rowD)
      rw [List.map_append]
      exact dps_app (dps_same (off_same se) hxo) (.cons (show Dp K _ (.ref P) (pairD (n, m)) from dp_flat (off_t hDe) (pair_mk (sqt_same s2e hP)) rfl) .nil)
    | merge qs =>
      obtain ⟨lq, rfl, hq⟩ := hY
      obtain ⟨lqz, ez, hqo⟩ := hYo
      cases ez
      rw [if_neg (show ¬ decide (actW (.merge qs) = ("start" : Str)) = true from (by decide +kernel : ¬ decide (("merge" : Str) = ("start" : Str)) = true))]
      tm_at "vp"
      refine w_ixT hW h0 ?_
      tm_at "vp"
      rw [if_neg (show ¬ decide (actW (.merge qs) = ("remove" : Str)) = true from (by decide +kernel : ¬ decide (("merge" : Str) = ("remove" : Str)) = true))]
      tm_at "vp"
      refine w_ixT hW h0 ?_
      tm_at "vp"
      rw [if_neg (show ¬ decide (actW (.merge qs) = ("insert" : Str)) = true from (by decide +kernel : ¬ decide (("merge" : Str) = ("insert" : Str)) = true))]
      tm_at "vp"
      refine w_ixT hW h0 ?_
      tm_at "vp"
      rw [if_pos (show decide (actW (.merge qs) = ("merge" : Str)) = true from (by decide +kernel : decide (("merge" : Str) = ("merge" : Str)) = true))]
      tm_at "vp"
      refine w_ixT hW (v := .ref lq) (at_of' (j := 1) rfl rfl) ?_
      tm_at "vp"
      rename_i p2 hp2
      have s3 := same_new hp2 (u := HO.lst [.ref lq])
      have f3 := @upd_same H p2 (HO.lst [.ref lq])
      generalize upd H p2 (HO.lst [.ref lq]) = H3 at *
      refine w_cat (s3 _ _ hls) f3 (by exact sz_le (by show _ + 1 ≤ _; omega)) fun p4 hp4 => ?_
      have s4 := same_new hp4 (u := HO.lst (xs ++ [.ref lq]))
      have f4 := @upd_same H3 p4 (HO.lst (xs ++ [.ref lq]))
      generalize upd H3 p4 (HO.lst (xs ++ [.ref lq])) = H4 at *
      tm_at "vp"
      rename_i e he
      have se := (s3.trans s4).trans (same_new he (u := HO.tup [b, .ref p4]))
      have hDe := hD.same se
      refine k _ _ se ⟨e, b, p4, _, rfl, (off_t hDe).sqt (SqT.of upd_same), dp_same (off_same se) hbo, off_new hD s3 hp4 (hp_new f4 he), ?_⟩
      show DpAll K _ _ ((s.2 ++ [Row.sum qs]).map rowD)
      rw [List.map_append]
      exact dps_app (dps_same (off_same se) hxo) (.cons (show Dp K _ (.ref lq) (.list [bagD qs]) from dp_same (off_same se) hqo) .nil)
theorem ok__law_deed {P : Program} {w : World} {K : PySem.W.Frag} {mg : Str → Option Value} {base : Heap} (fr : Fre mg) (cl_Summary : ClsF K mg "Summary" ["capacity", "counts", "__bool__"]) (et_Summary___init___0 : ∀ H : Hp, SqT K H (dflA "Summary" "__init__" 0 K) []) (D : Dfd K mg "_law_deed" s__law_deed)
    (h_Summary___init__ : HasM P w K mg base CX0 5 "Summary" "__init__" "Summary.__init__" s_Summary___init__ [.ref (dflA "Summary" "__init__" 0 K)] ["self", "capacity", "counts"] (sp_Summary___init__ K)) : Has P w K mg base CX0 7 "_law_deed" s__law_deed ["_law_width", "_law_plain_here"] (sp__law_deed K) := by
  refine D.has sc__law_deed (fun vs H Q E h => ?_) (fun cdv A outer s H vs Q E hr hg h => ?_)
  · obtain ⟨c, v, n, a, rfl, _⟩ := h; rfl
  · obtain ⟨c, v, n, a, rfl, hd, hv, k⟩ := h
    have nd := sc__law_deed.nd
    refine ⟨_, PSs.nox (pss_one (ps_ret (pe_callTy (k_tuple K) rfl fr.tuple_ (by decide +kernel) (pa_cons (pe_lc (own := [("_law_part", 2)]) (g := gName 2) (tt := tYes) rfl nd (k_iTup K (pv 1)) (blkOk_by (own := [("_law_part", 2)]) (N := N__law_deed) (sc := defScope s__law_deed) (by decide +kernel)) (fun _ _ _ _ _ => (pg_name (i := 2) nd rfl (Or.inl rfl))) (fun _ _ _ _ _ => pts_nil) (fun _ _ _ _ _ => (pe_ifExp (pt_val (pe_callB (k_isi K) rfl fr.isinstance_ (by decide +kernel) (pa_cons (pv 2) (pa_cons (pe_bltn (v := .ty "list") rfl fr.list_ boot_list rfl) pa_nil)))) (k_mk K cl_Summary h_Summary___init__ bj_Summary___init___3 (hr.mono (by decide)) hg rfl pass0 (pa_cons (pv 0) (pa_cons (pe_ix (k_ixL K) (pv 2) pe_int (fun _ _ => rfl)) pa_nil))) (pv 2)))) pa_nil)))), ?_⟩
    try dsimp only [cxOf]
    have est : ∀ a0 a1 : V, L2.start N__law_deed [a0, a1] = [some a0, some a1, none] := fun _ _ => rfl
    simp only [est]
    clear est
    obtain ⟨T, xs, rfl, hT, hx⟩ : ∃ T xs, v = .ref T ∧ SqT K H T xs ∧ ∃ ds, actD a = .tuple ds ∧ DpAll K H xs ds := by
      cases a <;> (obtain ⟨T, xs, e, h1, h2⟩ := dp_tup_inv hd; exact ⟨T, xs, e, h1, _, rfl, h2⟩)
    have hflat : (∀ qs, a ≠ .merge qs) → (∀ qs, a ≠ .start qs) → xs = actX .non a ∧ (∀ y ∈ xs, (∃ z, y = .str z) ∨ ∃ z, y = .int z) := fun n1 n2 => by
      obtain ⟨ds, e, hx⟩ := hx
      cases a with
      | merge qs => exact absurd rfl (n1 qs)
      | start qs => exact absurd rfl (n2 qs)
      | arrive n m =>
        cases e
        obtain _ | ⟨h1, _ | ⟨h2, _ | ⟨h3, r⟩⟩⟩ := hx
        cases r; cases h1; cases h2; cases h3
        exact ⟨rfl, fun y hy => by simp only [List.mem_cons, List.not_mem_nil, or_false] at hy; rcases hy with rfl | rfl | rfl <;> first | exact .inl ⟨_, rfl⟩ | exact .inr ⟨_, rfl⟩⟩
      | insert i n m =>
        cases e
        obtain _ | ⟨h1, _ | ⟨h2, _ | ⟨h3, _ | ⟨h4, r⟩⟩⟩⟩ := hx
        cases r; cases h1; cases h2; cases h3; cases h4
        exact ⟨rfl, fun y hy => by simp only [List.mem_cons, List.not_mem_nil, or_false] at hy; rcases hy with rfl | rfl | rfl | rfl <;> first | exact .inl ⟨_, rfl⟩ | exact .inr ⟨_, rfl⟩⟩
      | remove i =>
        cases e
        obtain _ | ⟨h1, _ | ⟨h2, r⟩⟩ := hx
        cases r; cases h1; cases h2
        exact ⟨rfl, fun y hy => by simp only [List.mem_cons, List.not_mem_nil, or_false] at hy; rcases hy with rfl | rfl <;> first | exact .inl ⟨_, rfl⟩ | exact .inr ⟨_, rfl⟩⟩
    tm_at "vp"
    have hk : (∃ qs, a = .merge qs ∨ a = .start qs) ∨ ((∀ qs, a ≠ .merge qs) ∧ ∀ qs, a ≠ .start qs) := by
      cases a with
      | merge qs => exact .inl ⟨qs, .inl rfl⟩
      | start qs => exact .inl ⟨qs, .inr rfl⟩
      | _ => exact .inr ⟨nofun, nofun⟩
    rcases hk with ⟨qs, hqs⟩ | ⟨n1, n2⟩
    rotate_left
    · obtain ⟨rfl, hfl⟩ := hflat n1 n2
      have hlen : (actX .non a).length ≤ 4 := by cases a <;> simp [actX]
      refine w_onT hT ?_
      intro D hD
      refine lc_map (walk_tup (xs := actX .non a)) (by omega) (fun i y => (actX .non a)[i]? = some y) hD (fun _ s => sqt_same s hT) ?_ ?_ mono_gname
      · rintro i y G1 G2 hi sg ⟨rfl, hy⟩ Qy hq
        refine w_gname ⟨rfl, ?_⟩
        tm_at "vp"
        have hd : ∃ d, Dp K G2 y d ∧ kitB (tyD d) "list" = some false := by
          rcases hfl y (List.mem_of_getElem? hy) with ⟨z, rfl⟩ | ⟨z, rfl⟩
          · exact ⟨_, .str z, rfl⟩
          · exact ⟨_, .int z, rfl⟩
        obtain ⟨d, h1, h2⟩ := hd
        refine w_isi (ty_dp h1) h2 ?_
        tm_at "vp"
        exact hq _ _ (Same.refl _) hy
      intro acc H1 s1 _ hacc hal hf
      have ea : acc = actX .non a := by
        refine List.ext_getElem? fun i => ?_
        cases z : acc[i]? with
        | none => exact (List.getElem?_eq_none (by rw [← hal]; exact List.getElem?_eq_none_iff.mp z)).symm
        | some y => exact (hf i y z).symm
      rw [ea] at hacc
      tm_at "vp"
      refine w_tupL (SqL.of hacc) fun T2 hT2 => ?_
      exact k _ _ (s1.trans (same_new hT2)) ⟨T2, .non, rfl, upd_same, by cases a <;> first | trivial | exact absurd rfl (n1 _) | exact absurd rfl (n2 _)⟩
    have hsum : ∃ l b, xs = [.str (actW a), .ref l] ∧ SqL K H l [b] ∧ Dp K H b (bagD qs) ∧ (∀ w, actX w a = [.str (actW a), w]) ∧ SumV c qs ∧ ∀ G w, SumO K G w c qs → actS K G c w a := by
      obtain ⟨ds, e, hx⟩ := hx
      rcases hqs with rfl | rfl
      · cases e
        obtain _ | ⟨h1, _ | ⟨h2, r⟩⟩ := hx
        cases r; cases h1
        obtain ⟨l, b, rfl, hl, hb⟩ := sum_inv h2
        exact ⟨l, b, rfl, hl, hb, fun _ => rfl, hv.1, fun _ _ h => h⟩
      · cases e
        obtain _ | ⟨h1, _ | ⟨h2, r⟩⟩ := hx
        cases r; cases h1
        obtain ⟨l, b, rfl, hl, hb⟩ := sum_inv h2
        exact ⟨l, b, rfl, hl, hb, fun _ => rfl, hv.1, fun _ _ h => h⟩
    obtain ⟨l, b, rfl, hl, hb, hX, hvq, hS⟩ := hsum
    refine w_onT hT ?_
    intro D hD
    refine lc_obj (walk_tup (xs := [.str (actW a), .ref l])) (by show 2 ≤ 100000; decide) (fun j y G => (j = 0 ∧ y = .str (actW a)) ∨ (j = 1 ∧ SumO K G y c qs)) (fun j y G G' s h => h.imp id fun ⟨e, h⟩ => ⟨e, sum_same s h⟩) (fun j y G D xs ys e h => h.imp id fun ⟨e2, h⟩ => ⟨e2, sum_lst e h⟩) hD (fun _ s => sqt_same s hT) ?_ ?_ mono_gname
    · rintro i y G1 G2 hi sg ⟨rfl, hy⟩ Qy hq
      refine w_gname ⟨rfl, ?_⟩
      tm_at "vp"
      match i, hi with
      | 0, _ =>
        cases hy
        refine w_isi (ty_dp (.str _)) (b := false) rfl ?_
        tm_at "vp"
        exact hq _ _ (Same.refl _) (.inl ⟨rfl, rfl⟩)
      | 1, _ =>
        cases hy
        refine w_isi (ty_dp (Dp.lst (sg.seq hl) (.cons (dp_same sg hb) .nil))) (b := true) rfl ?_
        tm_at "vp"
        refine w_ixL (sg.seq hl) (v := b) (at_of' (j := 0) rfl rfl) ?_
        tm_at "vp"
        refine w_mkSum (fun _ => rfl) (dp_same sg hb) hvq fun v' H' s' ho => ?_
        tm_at "vp"
        exact hq _ _ s' (.inr ⟨rfl, ho⟩)
    intro acc H1 s1 hacc hal hf
    obtain ⟨w, e1, hw⟩ : ∃ w, acc = [.str (actW a), w] ∧ SumO K H1 w c qs := by
      match acc, hal with
      | [x, w], _ =>
        rcases hf 0 x rfl with ⟨_, rfl⟩ | ⟨h, _⟩
        · rcases hf 1 w rfl with ⟨h, _⟩ | ⟨_, h⟩
          · cases h
          · exact ⟨w, rfl, h⟩
        · cases h
    subst e1
    tm_at "vp"
    refine w_tupL (SqL.of hacc) fun T2 hT2 => ?_
    have s2 := same_new hT2 (u := HO.tup [V.str (actW a), w])
    exact k _ _ (s1.trans s2) ⟨T2, w, rfl, by rw [hX]; exact upd_same, hS _ _ (sum_same s2 hw)⟩
theorem ok__law_deeds {P : Program} {w : World} {K : PySem.W.Frag} {mg : Str → Option Value} {base : Heap} (fr : Fre mg) (D : Dfd K mg "_law_deeds" s__law_deeds)
    (h__law_deed : Has P w K mg base CX0 7 "_law_deed" s__law_deed ["_law_width", "_law_plain_here"] (sp__law_deed K)) : Has P w K mg base CX0 8 "_law_deeds" s__law_deeds ["_law_width", "_law_plains"] (sp__law_deeds K) := by
  refine D.has sc__law_deeds (fun vs H Q E h => ?_) (fun cdv A outer s H vs Q E hr hg h => ?_)
  · obtain ⟨c, v, acts, rfl, _⟩ := h; rfl
  · obtain ⟨c, v, acts, rfl, hd, hv, hl, k⟩ := h
    have nd := sc__law_deeds.nd
    refine ⟨_, PSs.nox (pss_one (ps_ret (pe_callTy (k_tuple K) rfl fr.tuple_ (by decide +kernel) (pa_cons (pe_lc (own := [("_law_plain_here", 2)]) (g := gName 2) (tt := tYes) rfl nd (k_iList K (pv 1)) (blkOk_by (own := [("_law_plain_here", 2)]) (N := N__law_deeds) (sc := defScope s__law_deeds) (by decide +kernel)) (fun _ _ _ _ _ => (pg_name (i := 2) nd rfl (Or.inl rfl))) (fun _ _ _ _ _ => pts_nil) (fun _ _ _ _ _ => (pe_fn h__law_deed pb__law_deed (hr.mono (by decide)) hg rfl pass0 (pa_cons (pv 0) (pa_cons (pv 2) pa_nil))))) pa_nil)))), ?_⟩
    try dsimp only [cxOf]
    have est : ∀ a0 a1 : V, L2.start N__law_deeds [a0, a1] = [some a0, some a1, none] := fun _ _ => rfl
    simp only [est]
    clear est
    obtain ⟨l, ys, rfl, hls, hys⟩ := dp_lst_inv hd
    have hyl := dps_len hys
    rw [List.length_map] at hyl
    tm_at "vp"
    refine w_onL hls ?_
    intro D hD
    refine lc_obj (walk_list (xs := ys)) (by omega) (fun j y G => ∃ a, acts[j]? = some a ∧ DeedO K G c y a) (fun j y G G' s ⟨a, e, h⟩ => ⟨a, e, deedO_c (SameC.of s) h⟩) (fun j y G D xs zs e ⟨a, e2, h⟩ => ⟨a, e2, deed_lst e h⟩) hD (fun _ s => s.seq hls) ?_ ?_ mono_gname
    · rintro i y G1 G2 hi sg ⟨rfl, hy⟩ Qy hq
      obtain ⟨d, ed, hdy⟩ := dps_get hys hy
      obtain ⟨a, ea, rfl⟩ : ∃ a, acts[i]? = some a ∧ actD a = d := by
        rw [List.getElem?_map] at ed
        cases z : acts[i]? with
        | none => rw [z] at ed; cases ed
        | some a => rw [z] at ed; exact ⟨a, rfl, Option.some.inj ed⟩
      obtain ⟨n, hn⟩ := hv a (List.mem_of_getElem? ea)
      refine w_gname ⟨rfl, ?_⟩
      tm_at "vp"
      refine ⟨c, y, n, a, rfl, dp_same sg hdy, hn, fun v' H' s' ho => ?_⟩
      exact hq _ _ s' ⟨a, ea, ho⟩
    intro acc H1 s1 hacc hal hf
    tm_at "vp"
    refine w_tupL (SqL.of hacc) fun T2 hT2 => ?_
    have s2 := same_new hT2 (u := HO.tup acc)
    refine k T2 acc _ (s1.trans s2) upd_same (All2.of (by omega) fun i y a h1 h2 => ?_)
    obtain ⟨a', e, h⟩ := hf i y h1
    rw [e] at h2
    cases h2
    exact deedO_c (SameC.of s2) h
theorem ok__law_rows_right {P : Program} {w : World} {K : PySem.W.Frag} {mg : Str → Option Value} {base : Heap} (fr : Fre mg) (cl_Summary : ClsF K mg "Summary" ["capacity", "counts", "__bool__"]) (et_Summary___init___0 : ∀ H : Hp, SqT K H (dflA "Summary" "__init__" 0 K) []) (D : Dfd K mg "_law_rows_right" s__law_rows_right)
    (h_Summary___repr__ : HasMA P w K mg base CX0 2 "Summary" "__repr__" "Summary.__repr__" s_Summary___repr__ [] ["self"] (sp_Summary___repr__ K))
    (h_is_summary : Has P w K mg base CX0 1 "is_summary" s_is_summary ["thing"] (sp_is_summary K)) : Has P w K mg base CX0 10 "_law_rows_right" s__law_rows_right ["_law_told", "_law_width", "_law_rows"] (sp__law_rows_right K) := by
  refine D.has sc__law_rows_right (fun vs H Q E h => ?_) (fun cdv A outer s H vs Q E hr hg h => ?_)
  · obtain ⟨r, w, c, rows, rfl, _⟩ := h; rfl
  · obtain ⟨r, w, c, rows, rfl, hro, hd, hv, hl, c1, c8, k⟩ := h
    have nd := sc__law_rows_right.nd
    refine ⟨_, PSs.nox (pss_cons (ps_if (PW.pt (pw_or (pt_not (pt_val (pe_callB (k_isi K) rfl fr.isinstance_ (by decide +kernel) (pa_cons (pv 0) (pa_cons (pe_bltn (v := .ty "tuple") rfl fr.tuple_ boot_tuple rfl) pa_nil))))) (pw_or1 (pt_cmpR op_ne (pe_callB (k_len K) rfl fr.len_ (by decide +kernel) (pa_cons (pv 0) pa_nil)) (pe_callB (k_len K) rfl fr.len_ (by decide +kernel) (pa_cons (pv 2) pa_nil)) (nomark _))))) (pss_one (ps_ret pe_bl)) pss_nil)
      (pss_cons (ps_for PassesOwn.never rfl (k_iZipM K rfl fr.zip_ (pa_cons (pv 0) (pa_cons (pv 2) pa_nil))) (k_gtup K rfl (pgs_cons (pg_name (i := 3) nd rfl (Or.inl rfl)) (pgs_cons (pg_name (i := 4) nd rfl (Or.inl rfl)) pgs_nil)))
        (pss_cons (ps_set (i := 5) nd rfl (Or.inl rfl) (pe_cmpR op_eq (pe_callB (k_reprU K h_Summary___repr__ bj_Summary___repr___1 (hr.mono (by decide)) hg hr.units) rfl fr.repr_ (by decide +kernel) (pa_cons (pv 3) pa_nil)) (pe_callB (k_reprU K h_Summary___repr__ bj_Summary___repr___1 (hr.mono (by decide)) hg hr.units) rfl fr.repr_ (by decide +kernel) (pa_cons (pv 4) pa_nil)) (nomark _)))
      (pss_cons (ps_if (pt_val (pe_callB (k_isi K) rfl fr.isinstance_ (by decide +kernel) (pa_cons (pv 4) (pa_cons (pe_bltn (v := .ty "list") rfl fr.list_ boot_list rfl) pa_nil)))) (pss_one (ps_set (i := 5) nd rfl (Or.inl rfl) (pe_and (pe_fn h_is_summary pb_is_summary (hr.mono (by decide)) hg rfl pass0 (pa_cons (pv 3) pa_nil)) (pe_one (pe_cmpR op_eq (pe_callB (k_repr K hg hr.units) rfl fr.repr_ (by decide +kernel) (pa_cons (pe_lst (pa_cons (k_fld K (pv 3) rfl) (pa_cons (k_fld K (pv 3) rfl) pa_nil))) pa_nil)) (pe_callB (k_repr K hg hr.units) rfl fr.repr_ (by decide +kernel) (pa_cons (pe_lst (pa_cons (pv 1) (pa_cons (pe_ix (k_ixL K) (pv 4) pe_int (fun _ _ => rfl)) pa_nil))) pa_nil)) (nomark _)))))) pss_nil)
      (pss_one (ps_if (pt_not (pt_val (pv 5))) (pss_one (ps_ret pe_bl)) pss_nil)))))
      (pss_one (ps_ret pe_bl)))), ?_⟩
    try dsimp only [cxOf]
    have est : ∀ a0 a1 a2 : V, L2.start N__law_rows_right [a0, a1, a2] = [some a0, some a1, some a2, none, none, none] := fun _ _ _ => rfl
    simp only [est]
    clear est
    obtain ⟨R, xs, rfl, hR, hxs⟩ := hro
    obtain ⟨L, ys, rfl, hL, hys⟩ := dp_lst_inv hd
    have hll : xs.length = ys.length := by rw [hxs.len, dps_len hys, List.length_map]
    tm_at "vp"
    refine w_isiTup hR rfl ?_
    refine w_bl ?_
    rw [if_neg (by decide)]
    tm_at "vp"
    refine w_lenT hR ?_
    tm_at "vp"
    refine w_lenL hL ?_
    tm_at "vp"
    rw [hll, decide_eq_true rfl]
    tm_at "vp"
    refine w_iZipM ?_
    tm_at "vp"
    refine w_onM hR hL ?_
    refine for_go (walk_zm hll) (fun i σ H' => ∃ u3 u4 u5, σ = [some (.ref R), some (.int c), some (.ref L), u3, u4, u5] ∧ Same H H') ⟨_, _, _, rfl, Same.refl _⟩ (fun i σ H' _ ⟨_, _, _, _, s1⟩ => ⟨sqt_same s1 hR, s1.seq hL⟩) ?_ ?_
    rotate_left
    · rintro σ Hz ⟨u3, u4, u5, rfl, sz⟩
      dsimp only
      tm_at "vp"
      exact k _ sz
    rintro i v σ Ha Hb hi ⟨u3, u4, u5, rfl, sa⟩ ⟨T, x, y, rfl, hT, rfl, hx, hy⟩
    obtain ⟨row, er, hrow⟩ := hxs.get hx
    obtain ⟨d, ed, hdue⟩ := dps_get hys hy
    rw [List.getElem?_map, er] at ed
    cases ed
    have hrV := hv row (List.mem_of_getElem? er)
    have sT := sa.trans (same_new hT (u := HO.tup [x, y]))
    have hrow := rowO_c (SameC.of sT) hrow
    have hdue := dp_same sT hdue
    refine w_gtup (SqT.of upd_same) rfl ?_
    generalize upd Ha T (HO.tup [x, y]) = H1 at *
    tm_at "vp"
    cases row with
    | run n m =>
      have hsh := shX_of (row_smW hrV)
      refine w_reprUd (d := pairD (n, m)) (dp_dx hrow) hsh ?_
      tm_at "vp"
      refine w_reprUd (d := pairD (n, m)) (dp_dx hdue) hsh ?_
      tm_at "vp"
      refine w_isi (ty_dp hdue) (b := false) rfl ?_
      tm_at "vp"
      rw [if_neg (by rw [decide_eq_true rfl]; decide)]
      tm_at "vp"
      exact ⟨_, _, _, rfl, sT⟩
    | sum qs =>
      have hbs := bag_s32 hrV.1 (Int.le_trans hrV.2 (by decide))
      have hql := hrV.1.len
      have hsh := sum_shows hrV.1 (Int.le_trans hrV.2 (by decide))
      obtain ⟨lq, bq, rfl, hlq, hbq⟩ := sum_inv hdue
      refine w_reprUs (w_strSum hrow ?_)
      refine ⟨x, c, qs, rfl, hrow, hrV.1, hbs, fun H2 s2 => ⟨_, rfl, ?_⟩⟩
      tm_at "vp"
      refine w_reprUd (d := .list [bagD qs]) (dp_dx (dp_same s2 hdue)) (shX_lst (smW_bag hbs (by omega))) ?_
      have ho2 := sum_same s2 hrow
      tm_at "vp"
      refine w_isi (ty_dp (dp_same s2 hdue)) (b := true) rfl ?_
      tm_at "vp"
      refine ⟨x, true, rfl, .inl ⟨rfl, c, qs, ho2⟩, ?_⟩
      tm_at "vp"
      refine w_sumCap cl_Summary ho2 ?_
      tm_at "vp"
      refine w_sumCnt cl_Summary ho2 fun bb hbb => ?_
      tm_at "vp"
      rename_i L1 hL1
      have s3 := same_new hL1 (u := HO.lst [.int c, bb])
      refine w_repr (d := .list [.int c, bagD qs]) (sum_dp (SqL.of upd_same) (dp_same s3 hbb)) hsh ?_
      generalize upd H2 L1 (HO.lst [.int c, bb]) = H3 at *
      tm_at "vp"
      refine w_ixL ((s2.trans s3).seq hlq) (v := bq) (at_of' (j := 0) rfl rfl) ?_
      tm_at "vp"
      rename_i L2 hL2
      have s4 := same_new hL2 (u := HO.lst [.int c, bq])
      refine w_repr (d := .list [.int c, bagD qs]) (sum_dp (SqL.of upd_same) (dp_same (s2.trans (s3.trans s4)) hbq)) hsh ?_
      tm_at "vp"
      rw [decide_eq_true rfl]
      tm_at "vp"
      exact ⟨_, _, _, rfl, sT.trans (s2.trans (s3.trans s4))⟩
theorem ok__law_told_right {P : Program} {w : World} {K : PySem.W.Frag} {mg : Str → Option Value} {base : Heap} (fr : Fre mg) (cl_Summary : ClsF K mg "Summary" ["capacity", "counts", "__bool__"]) (et_Summary___init___0 : ∀ H : Hp, SqT K H (dflA "Summary" "__init__" 0 K) []) (cl_Collector : ClsF K mg "Collector" ["capacity", "begin", "rows", "past", "busy", "attempts", "__bool__"]) (kx_Summary_Collector : PySem.W.kitOne K (.ref (He.ga K "Summary")) (.ref (He.ga K "Collector")) = some false) (kx_Collector_Summary : PySem.W.kitOne K (.ref (He.ga K "Collector")) (.ref (He.ga K "Summary")) = some false) (D : Dfd K mg "_law_told_right" s__law_told_right)
    (h__law_now : Has P w K mg base CX0 3 "_law_now" s__law_now ["_law_width", "_law_state"] (sp__law_now K))
    (h_Collector_current : HasM P w K mg base CX0 9 "Collector" "current" "Collector.current" s_Collector_current [] ["self"] (sp_Collector_current K))
    (h_Collector_start : HasM P w K mg base CX0 1 "Collector" "start" "Collector.start" s_Collector_start [] ["self"] (sp_Collector_start K))
    (h_Collector___str__ : HasM P w K mg base CX0 9 "Collector" "__str__" "Collector.__str__" s_Collector___str__ [] ["self"] (sp_Collector___str__ K))
    (h__law_text : Has P w K mg base CX0 1 "_law_text" s__law_text ["_law_bag_here"] (sp__law_text K))
    (h_Collector___len__ : HasM P w K mg base CX0 1 "Collector" "__len__" "Collector.__len__" s_Collector___len__ [] ["self"] (sp_Collector___len__ K))
    (h_Collector___repr__ : HasM P w K mg base CX0 1 "Collector" "__repr__" "Collector.__repr__" s_Collector___repr__ [] ["self"] (sp_Collector___repr__ K))
    (h_Collector_arrived : HasM P w K mg base CX0 2 "Collector" "arrived" "Collector.arrived" s_Collector_arrived [] ["self"] (sp_Collector_arrived K))
    (h__law_flat : Has P w K mg base CX0 1 "_law_flat" s__law_flat ["_law_held_here"] (sp__law_flat K))
    (h__law_rows_right : Has P w K mg base CX0 10 "_law_rows_right" s__law_rows_right ["_law_told", "_law_width", "_law_rows"] (sp__law_rows_right K))
    (h_Collector_entries : HasM P w K mg base CX0 1 "Collector" "entries" "Collector.entries" s_Collector_entries [] ["self"] (sp_Collector_entries K)) : Has P w K mg base CX0 12 "_law_told_right" s__law_told_right ["_law_box", "_law_width", "_law_state"] (sp__law_told_right K) := by
  refine D.has sc__law_told_right (fun vs H Q E h => ?_) (fun cdv A outer s H vs Q E hr hg h => ?_)
  · obtain ⟨a, dx, c, s, past, busy, att, B, R, P, v, rfl, _⟩ := h; rfl
  · obtain ⟨a, dx, c, s, past, busy, att, B, R, P, v, rfl, ho, hs, hl, hd, h12, k⟩ := h
    have nd := sc__law_told_right.nd
    refine ⟨_, PSs.nox (pss_cons (ps_par (i := 3) (j := 4) rfl nd rfl rfl (by decide) rfl rfl (pa_cons (pe_fn h__law_now pb__law_now (hr.mono (by decide)) hg rfl pass0 (pa_cons (pv 1) (pa_cons (pv 2) pa_nil))) (pa_cons (pe_lc (own := [("_law_row", 5)]) (g := gName 5) rfl nd (k_iList K (pe_ix (k_ixT K) (pv 2) pe_int (fun _ _ => rfl))) (blkOk_by (own := [("_law_row", 5)]) (N := N__law_told_right) (sc := defScope s__law_told_right) (by decide +kernel)) (fun _ _ _ _ _ => (pg_name (i := 5) nd rfl (Or.inl rfl))) (fun _ _ _ _ _ => (pts_one (pt_not (pt_val (pe_callB (k_isi K) rfl fr.isinstance_ (by decide +kernel) (pa_cons (pv 5) (pa_cons (pe_bltn (v := .ty "list") rfl fr.list_ boot_list rfl) pa_nil))))))) (fun _ _ _ _ _ => (pv 5))) pa_nil)) rfl)
      (pss_cons (ps_set (i := 6) nd rfl (Or.inl rfl) (pe_lst (pa_cons (k_fld K (pv 0) rfl) (pa_cons (k_fld K (pe_mt0 cl_Collector h_Collector_start bj_Collector_start_1 (hr.mono (by decide)) hg pass0 (pv 0)) rfl) (pa_cons (k_fld K (pe_mt0 cl_Collector h_Collector_start bj_Collector_start_1 (hr.mono (by decide)) hg pass0 (pv 0)) rfl) (pa_cons (k_fld K (pe_mt0 cl_Collector h_Collector_current bj_Collector_current_1 (hr.mono (by decide)) hg pass0 (pv 0)) rfl) (pa_cons (k_fld K (pe_mt0 cl_Collector h_Collector_current bj_Collector_current_1 (hr.mono (by decide)) hg pass0 (pv 0)) rfl) pa_nil)))))))
      (pss_cons (ps_if (PW.pt (pw_or (pt_cmpR op_ne (pe_callB (k_repr K hg hr.units) rfl fr.repr_ (by decide +kernel) (pa_cons (pv 6) pa_nil)) (pe_callB (k_repr K hg hr.units) rfl fr.repr_ (by decide +kernel) (pa_cons (pe_lst (pa_cons (pv 1) (pa_cons (pv 1) (pa_cons (pe_ix (k_ixT K) (pv 2) pe_int (fun _ _ => rfl)) (pa_cons (pv 1) (pa_cons (pv 3) pa_nil)))))) pa_nil)) (nomark _)) (pw_or1 (pt_cmpR op_ne (pe_callTy (s_str K h_Collector___str__ bj_Collector___str___1 (hr.mono (by decide)) hg pass0) rfl fr.str_ (by decide +kernel) (pa_cons (pv 0) pa_nil)) (pe_fn h__law_text pb__law_text (hr.mono (by decide)) hg rfl pass0 (pa_cons (pv 3) pa_nil)) (nomark _))))) (pss_one (ps_ret pe_bl)) pss_nil)
      (pss_cons (ps_if (PW.pt (pw_or (pt_cmpR op_ne (pe_callB (s_repr K h_Collector___repr__ bj_Collector___repr___1 (hr.mono (by decide)) hg pass0) rfl fr.repr_ (by decide +kernel) (pa_cons (pv 0) pa_nil)) (pe_op o_addS (pe_op o_addS (pe_op o_addS (pe_op o_addS pe_str (pe_callTy c_strI rfl fr.str_ (by decide +kernel) (pa_cons (pv 1) pa_nil))) pe_str) (pe_callTy c_strI rfl fr.str_ (by decide +kernel) (pa_cons (pe_callB (k_len K) rfl fr.len_ (by decide +kernel) (pa_cons (pe_ix (k_ixT K) (pv 2) pe_int (fun _ _ => rfl)) pa_nil)) pa_nil))) pe_str) (nomark _)) (pw_or1 (pt_cmpR op_ne (pe_callB (s_len K h_Collector___len__ bj_Collector___len___1 (hr.mono (by decide)) hg pass0) rfl fr.len_ (by decide +kernel) (pa_cons (pv 0) pa_nil)) (pe_callB (k_len K) rfl fr.len_ (by decide +kernel) (pa_cons (pe_ix (k_ixT K) (pv 2) pe_int (fun _ _ => rfl)) pa_nil)) (nomark _))))) (pss_one (ps_ret pe_bl)) pss_nil)
      (pss_cons (ps_set (i := 7) nd rfl (Or.inl rfl) pe_dnewK)
      (pss_cons (ps_for PassesOwn.never rfl (k_iList K (pv 4)) (k_gtup K rfl (pgs_cons (pg_name (i := 8) nd rfl (Or.inl rfl)) (pgs_cons (pg_name (i := 9) nd rfl (Or.inl rfl)) pgs_nil)))
        (pss_one (ps_dput (hu_of hr) (pv 7) (pv 8) (pe_op op_add (pe_dget2 (hu_of hr) (pv 7) (pv 8) pe_int ⟨rfl, rfl, rfl, rfl⟩) (pv 9)) rfl)))
      (pss_cons (ps_if (PW.pt (pw_and (pt_cmpR op_lt (pe_callB c_lenD rfl fr.len_ (by decide +kernel) (pa_cons (pv 7) pa_nil)) pe_int (nomark _)) (pw_and1 (pt_cmpR op_ne (pe_callB (k_repr K hg hr.units) rfl fr.repr_ (by decide +kernel) (pa_cons (pe_mt0 cl_Collector h_Collector_arrived bj_Collector_arrived_1 (hr.mono (by decide)) hg pass0 (pv 0)) pa_nil)) (pe_callB (k_repr K hg hr.units) rfl fr.repr_ (by decide +kernel) (pa_cons (pe_fn h__law_flat pb__law_flat (hr.mono (by decide)) hg rfl pass0 (pa_cons (pv 7) pa_nil)) pa_nil)) (nomark _))))) (pss_one (ps_ret pe_bl)) pss_nil)
      (pss_one (ps_ret (pe_fn h__law_rows_right pb__law_rows_right (hr.mono (by decide)) hg rfl pass0 (pa_cons (pe_mt0 cl_Collector h_Collector_entries bj_Collector_entries_1 (hr.mono (by decide)) hg pass0 (pv 0)) (pa_cons (pv 1) (pa_cons (pe_ix (k_ixT K) (pv 2) pe_int (fun _ _ => rfl)) pa_nil))))))))))))), ?_⟩
    try dsimp only [cxOf]
    have est : ∀ a0 a1 a2 : V, L2.start N__law_told_right [a0, a1, a2] = [some a0, some a1, some a2, none, none, none, none, none, none, none] := fun _ _ _ => rfl
    simp only [est]
    clear est
    have c1 := hs.1.c1
    have c8 := hs.1.c8
    have hd0 := hd
    obtain ⟨T, b, l, xs, rfl, hT, hb, hls, hx⟩ := st_inv hd
    have hlen : xs.length = s.2.length := by rw [dps_len hx, List.length_map]
    tm_at "vp"
    refine ⟨c, .ref T, s, rfl, hd0, hs, hl, fun nv H1 s1 hnv hnS hnB => ?_⟩
    have hnb := bag_s32 hnS hnB
    have hnl := hnS.len
    have hbb := bag_s32 hs.1 (Int.le_trans hs.2.1 (by decide))
    have hbl := hs.1.len
    tm_at "vp"
    refine w_ixT (sqt_same s1 hT) (v := .ref l) (at_of' (j := 1) rfl rfl) ?_
    refine w_onL (s1.seq hls) ?_
    intro D hD
    refine lc_fmd K (walk_list (xs := xs)) s.2 (fun r => (rowRun r).map pairD) hlen.symm (by rw [hlen]; omega) (fun r d e => by
      cases r with
      | run n m => cases e; rfl
      | sum qs => cases e) hD (fun _ s2 => (s1.trans s2).seq hls) ?_ ?_
    · rintro i y row G1 G2 hj s2 ⟨rfl, hy⟩ Qy Qn hq1 hq2
      obtain ⟨d, ed, hrow⟩ := dps_get hx hy
      rw [List.getElem?_map, hj] at ed
      cases ed
      have hrow := dp_same (s1.trans s2) hrow
      refine w_gname ⟨rfl, ?_⟩
      tm_at "vp"
      cases row with
      | run n m =>
        refine w_isi (ty_dp hrow) (b := false) rfl ?_
        tm_at "vp"
        exact hq1 _ _ _ (Same.refl _) rfl hrow
      | sum qs =>
        refine w_isi (ty_dp hrow) (b := true) rfl ?_
        tm_at "vp"
        exact hq2 _ (Same.refl _) rfl
    intro acc H2 s2 _ hacc hdp
    have e : s.2.filterMap (fun r => (rowRun r).map pairD) = (runsR s.2).map pairD := by
      unfold runsR
      rw [List.map_filterMap]
    rw [e] at hdp
    clear e
    have hrl := runsR_len s.2
    have s02 := s1.trans s2
    have ho2 := ho.same s02
    have hnv2 := dp_same s2 hnv
    tm_at "vp"
    refine w_colCap cl_Collector ho2 ?_
    tm_at "vp"
    refine w_colM ho2 (by decide +kernel) ?_
    tm_at "vp"
    refine ⟨a, dx, c, s, past, busy, att, B, R, P, rfl, ho2, ?_⟩
    refine w_sumCap cl_Summary ho2.beg ?_
    tm_at "vp"
    refine w_colM ho2 (by decide +kernel) ?_
    tm_at "vp"
    refine ⟨a, dx, c, s, past, busy, att, B, R, P, rfl, ho2, ?_⟩
    refine w_sumCnt cl_Summary ho2.beg fun bb hbb1 => ?_
    tm_at "vp"
    refine w_colM ho2 (by decide +kernel) ?_
    tm_at "vp"
    refine ⟨a, dx, c, s, past, busy, att, B, R, P, rfl, ho2, hs, hl, fun v3 H3 s3 hv3 _ _ => ?_⟩
    have ho3 := ho2.same s3
    refine w_sumCap cl_Summary hv3 ?_
    tm_at "vp"
    refine w_colM ho3 (by decide +kernel) ?_
    tm_at "vp"
    refine ⟨a, dx, c, s, past, busy, att, B, R, P, rfl, ho3, hs, hl, fun v4 H4 s4 hv4 _ _ => ?_⟩
    refine w_sumCnt cl_Summary hv4 fun b4 hb4 => ?_
    tm_at "vp"
    rename_i L hL
    have sL := same_new hL (u := HO.lst [.int c, .int c, bb, .int c, b4])
    have fL := @upd_same H4 L (HO.lst [.int c, .int c, bb, .int c, b4])
    generalize upd H4 L (HO.lst [.int c, .int c, bb, .int c, b4]) = H5 at *
    have s25 := s3.trans (s4.trans sL)
    have s05 := s02.trans s25
    have ho5 := ho.same s05
    have hsh := five_shows c1 c8 hbb (by omega) hnb (by omega)
    refine w_repr (d := .list [.int c, .int c, bagD s.1, .int c, bagD (nowT c s.1 s.2)]) (.lst (SqL.of fL) (.cons (.int _) (.cons (.int _) (.cons (dp_same s25 hbb1) (.cons (.int _) (.cons (dp_same sL hb4) .nil)))))) hsh ?_
    tm_at "vp"
    refine w_ixT (sqt_same s05 hT) (v := b) (at_of' (j := 0) rfl rfl) ?_
    tm_at "vp"
    rename_i L2 hL2
    have sL2 := same_new hL2 (u := HO.lst [.int c, .int c, b, .int c, nv])
    refine w_repr (d := .list [.int c, .int c, bagD s.1, .int c, bagD (nowT c s.1 s.2)]) (.lst (SqL.of upd_same) (.cons (.int _) (.cons (.int _) (.cons (dp_same (s05.trans sL2) hb) (.cons (.int _) (.cons (dp_same (s25.trans sL2) hnv2) .nil)))))) hsh ?_
    generalize upd H5 L2 (HO.lst [.int c, .int c, b, .int c, nv]) = H6 at *
    tm_at "vp"
    rw [decide_eq_true rfl]
    tm_at "vp"
    have s06 := s05.trans sL2
    have ho6 := ho.same s06
    refine w_strCol ho6 ?_
    refine ⟨a, dx, c, s, past, busy, att, B, R, P, rfl, ho6, hs, hl, fun H7 s7 => ⟨_, rfl, ?_⟩⟩
    tm_at "vp"
    refine ⟨nv, nowT c s.1 s.2, rfl, dp_same (s25.trans (sL2.trans s7)) hnv2, hnb, by omega, fun H8 s8 => ?_⟩
    tm_at "vp"
    rw [decide_eq_true rfl]
    tm_at "vp"
    have s08 := s06.trans (s7.trans s8)
    have ho8 := ho.same s08
    have q1 := intS_len (i := c) (by omega) (Int.le_trans c8 (by decide))
    have q2 := intS_len (i := (s.2.length : Nat)) (by omega) (Int.le_trans (show ((s.2.length : Nat) : Int) ≤ 1000 by omega) (by decide))
    have l1 : Str.length ("Collector(" : Str) = 10 := by decide +kernel
    have l2 : Str.length (", " : Str) = 2 := by decide +kernel
    have l3 : Str.length (" entries)" : Str) = 9 := by decide +kernel
    refine w_strCol ho8 ?_
    refine ⟨a, dx, c, s, past, busy, att, B, R, P, rfl, ho8, by omega, c8, by omega, fun H9 s9 => ⟨_, rfl, ?_⟩⟩
    have s09 := s08.trans s9
    have ho9 := ho.same s09
    tm_at "vp"
    refine w_strI (by omega) (Int.le_trans c8 (by decide)) ?_
    refine w_addS (sz_le (by omega)) ?_
    tm_at "vp"
    refine w_addS (sz_le (by rw [app_len]; omega)) ?_
    tm_at "vp"
    refine w_ixT (sqt_same s09 hT) (v := .ref l) (at_of' (j := 1) rfl rfl) ?_
    tm_at "vp"
    refine w_lenL (s09.seq hls) ?_
    rw [hlen]
    tm_at "vp"
    refine w_strI (by omega) (Int.le_trans (show ((s.2.length : Nat) : Int) ≤ 1000 by omega) (by decide)) ?_
    refine w_addS (sz_le (by rw [app_len, app_len]; omega)) ?_
    tm_at "vp"
    refine w_addS (sz_le (by rw [app_len, app_len, app_len]; omega)) ?_
    tm_at "vp"
    rw [decide_eq_true rfl]
    tm_at "vp"
    refine w_lenCol ho9 ?_
    refine ⟨a, dx, c, s, past, busy, att, B, R, P, rfl, ho9, ⟨_, rfl, by omega, by omega, ?_⟩⟩
    tm_at "vp"
    refine w_ixT (sqt_same s09 hT) (v := .ref l) (at_of' (j := 1) rfl rfl) ?_
    tm_at "vp"
    refine w_lenL (s09.seq hls) ?_
    rw [hlen]
    tm_at "vp"
    rw [decide_eq_true rfl]
    tm_at "vp"
    rename_i E hE
    have s29 : Same H2 H9 := s25.trans (sL2.trans (s7.trans (s8.trans s9)))
    have hacc9 := s29 _ _ hacc
    have hdp9 := dps_same s29 hdp
    have hal : acc.length = (runsR s.2).length := by rw [dps_len hdp, List.length_map]
    refine w_onL (SqL.of (hp_new hacc9 hE)) ?_
    refine for_go (walk_list (xs := acc)) (fun i σ H' => ∃ u w, σ = [some (.ref a), some (.int c), some (.ref T), some nv, some (.ref D), none, some (.ref L), some (.ref E), u, w] ∧ Same H9 H' ∧ H' E = some (.dK (kvOf (tabOf ((runsR s.2).take i))))) ⟨none, none, rfl, same_new hE, upd_same⟩ (fun i σ H' _ ⟨_, _, _, s, _⟩ => SqL.of (s _ _ hacc9)) ?_ ?_
    · rintro i v σ G1 G2 hi ⟨u, w, rfl, t1, hd1⟩ ⟨rfl, hy⟩
      obtain ⟨p, b, e1, rfl, hb⟩ := bag_get hdp9 hy
      have hln : (tabOf ((runsR s.2).take i)).length ≤ 100000 := by have := tabOf_len ((runsR s.2).take i); rw [List.length_take] at this; omega
      refine w_gtup (sqt_same t1 hb) rfl ?_
      tm_at "vp"
      refine w_isD hd1 ?_
      tm_at "vp"
      refine w_dgetk hd1 ?_
      rw [kv_get]
      tm_at "vp"
      refine w_dputk hd1 (by rw [kv_len]; exact Nat.lt_of_le_of_lt hln (by decide)) ?_
      tm_at "vp"
      refine ⟨_, _, rfl, same_mut t1 hE, ?_⟩
      rw [kv_put, upd_same, take_succ_snoc e1, tabOf_snoc]
      rfl
    rintro σ G1 ⟨u, w, rfl, t1, hd1⟩
    rw [List.take_of_length_le (by omega)] at hd1
    have hoG := ho9.same t1
    tm_at "vp"
    refine w_lenD hd1 ?_
    rw [kv_len]
    tm_at "vp"
    rw [show decide (((tabOf (runsR s.2)).length : Int) < 13) = true from decide_eq_true (by omega)]
    tm_at "vp"
    refine w_colM hoG (by decide +kernel) ?_
    tm_at "vp"
    refine ⟨a, dx, c, s, past, busy, att, B, R, P, rfl, hoG, hs, hl, h12, fun v1 ps G2 t2 hv1 hcan1 hmem1 => ?_⟩
    obtain ⟨hps, hpl⟩ := runs_bag hs.2.2 hl hcan1 hmem1 h12
    have hsh1 := bag_shows hps (by omega)
    tm_at "vp"
    refine w_repr hv1 hsh1 ?_
    tm_at "vp"
    have htab : TabOk (tabOf (runsR s.2)) := tab_ok fun p hp => (runsR_mem hs.2.2 p hp).2.1
    refine ⟨E, tabOf (runsR s.2), rfl, t2 _ _ hd1, tabOf_nd _, by omega, tab_pos htab, fun v2 qs G3 t3 hv2 hcan2 _ _ => ?_⟩
    cases can_unique hcan1 hcan2
    tm_at "vp"
    refine w_repr hv2 hsh1 ?_
    tm_at "vp"
    rw [decide_eq_true rfl]
    tm_at "vp"
    have s0G := s09.trans (t1.trans (t2.trans t3))
    have hoH := ho.same s0G
    refine w_colM hoH (by decide +kernel) ?_
    tm_at "vp"
    refine ⟨a, dx, c, s, past, busy, att, B, R, P, rfl, hoH, ?_⟩
    tm_at "vp"
    refine w_ixT (sqt_same s0G hT) (v := .ref l) (at_of' (j := 1) rfl rfl) ?_
    tm_at "vp"
    refine ⟨R, .ref l, c, s.2, rfl, hoH.rows, dp_same s0G (.lst hls hx), hs.2.2, hl, c1, c8, fun G4 t4 => ?_⟩
    tm_at "vp"
    exact k _ (s0G.trans t4)
theorem ok__law_drawn {P : Program} {w : World} {K : PySem.W.Frag} {mg : Str → Option Value} {base : Heap} (fr : Fre mg) (D : Dfd K mg "_law_drawn" s__law_drawn)
    (h__law_draw : Has P w K mg base CX0 1 "_law_draw" s__law_draw ["_law_pool_here", "_law_many"] (sp__law_draw K))
    (h__law_plain : Has P w K mg base CX0 4 "_law_plain" s__law_plain ["_law_pool_here", "_law_width", "_law_words_here", "_law_size"] (sp__law_plain K))
    (h__law_done : Has P w K mg base CX0 1 "_law_done" s__law_done ["_law_state", "_law_plain_here"] (sp__law_done K)) : Has P w K mg base CX0 5 "_law_drawn" s__law_drawn ["_law_pool_here", "_law_width", "_law_words_here", "_law_state", "_law_most"] (sp__law_drawn K) := by
  refine D.has sc__law_drawn (fun vs H Q E h => ?_) (fun cdv A outer s H vs Q E hr hg h => ?_)
  · obtain ⟨p, a, ws, c, sv, s, m, rfl, _⟩ := h; rfl
  · obtain ⟨p, a, ws, c, sv, s, m, rfl, hp, ha, hw, hl1, hl12, c1, c8, hst, hsv, hm, hrw, k⟩ := h
    have nd := sc__law_drawn.nd
    refine ⟨_, PSs.nox (pss_cons (ps_par (i := 5) (j := 6) rfl nd rfl rfl (by decide) rfl rfl (pa_cons (pe_lst pa_nil) (pa_cons (pe_lst (pa_cons (pv 3) pa_nil)) pa_nil)) rfl)
      (pss_cons (ps_for PassesOwn.never rfl (pi_range1 rfl fr.range_ (pa_cons (pe_fn h__law_draw pb__law_draw (hr.mono (by decide)) hg rfl pass0 (pa_cons (pv 0) (pa_cons (pe_op op_add (pv 4) pe_int) pa_nil))) pa_nil)) (pg_name (i := 7) nd rfl (Or.inl rfl))
        (pss_cons (ps_expr (k_bm K PySem.F.plainAttrs_list PySem.F.slot_list_append PySem.F.type_list_append mt_append (pv 5) (pa_cons (pe_fn h__law_plain pb__law_plain (hr.mono (by decide)) hg rfl pass0 (pa_cons (pv 0) (pa_cons (pv 1) (pa_cons (pv 2) (pa_cons (pe_callB (k_len K) rfl fr.len_ (by decide +kernel) (pa_cons (pe_ix (k_ixT K) (pe_ix (k_ixL K) (pv 6) (pe_un un_neg pe_int) (fun _ _ => rfl)) pe_int (fun _ _ => rfl)) pa_nil)) pa_nil))))) pa_nil)))
      (pss_one (ps_expr (k_bm K PySem.F.plainAttrs_list PySem.F.slot_list_append PySem.F.type_list_append mt_append (pv 6) (pa_cons (pe_fn h__law_done pb__law_done (hr.mono (by decide)) hg rfl pass0 (pa_cons (pe_ix (k_ixL K) (pv 6) (pe_un un_neg pe_int) (fun _ _ => rfl)) (pa_cons (pe_ix (k_ixL K) (pv 5) (pe_un un_neg pe_int) (fun _ _ => rfl)) pa_nil))) pa_nil))))))
      (pss_one (ps_ret (pe_lst (pa_cons (pv 5) (pa_cons (pv 6) pa_nil))))))), ?_⟩
    try dsimp only [cxOf]
    have est : ∀ a0 a1 a2 a3 a4 : V, L2.start N__law_drawn [a0, a1, a2, a3, a4] = [some a0, some a1, some a2, some a3, some a4, none, none, none] := fun _ _ _ _ _ => rfl
    simp only [est]
    clear est
    tm_at "vp"
    rename_i e1 he1 e2 he2
    have s1 := same_new he1 (u := HO.lst [])
    have s2 := same_new he2 (u := HO.lst [sv])
    have f2 := @upd_same (upd H e1 (HO.lst [])) e2 (HO.lst [sv])
    have f1 := hp_new (upd_same (H := H) (a := e1) (o := HO.lst [])) he2 (u := HO.lst [sv])
    have hn2 : H e2 = none := s1.free he2
    have hne : e1 ≠ e2 := fun z => by rw [z, upd_same] at he2; cases he2
    have s02 := s1.trans s2
    clear s1 s2
    generalize upd (upd H e1 (HO.lst [])) e2 (HO.lst [sv]) = H2 at *
    have hnD : ∀ d ∈ [e1, e2], H d = none := fun d hd => by
      simp only [List.mem_cons, List.not_mem_nil, or_false] at hd
      rcases hd with rfl | rfl
      · exact he1
      · exact hn2
    refine ⟨p, _, rfl, s02 _ _ hp, by omega, by omega, fun r H3 r0 r1 s3 => ?_⟩
    have s03 := s02.trans s3
    obtain ⟨rn, rfl⟩ := Int.eq_ofNat_of_zero_le r0
    have hrm : rn ≤ m := by omega
    tm_at "vp"
    refine w_onR1 ⟨by omega, by omega⟩ ?_
    refine for_go walk_range (fun i σ H' => ∃ (ps ss : List V) (acts : List Act) (u7 : Option V), σ = [some (.ref p), some (.int c), some (.ref a), some sv, some (.int (m : Nat)), some (.ref e1), some (.ref e2), u7] ∧ Same H H' ∧ H' e1 = some (.lst ps) ∧ H' e2 = some (.lst ss) ∧ DpAll K (Off [e1, e2] H') ps (acts.map actD) ∧ All2 (StL K (Off [e1, e2] H')) ss (statesA s acts) ∧ acts.length = i ∧ ActsV c s acts ∧ RunsW ws s acts)
      ⟨[], [sv], [], none, rfl, s03, s3 _ _ f1, s3 _ _ f2, .nil, .cons (hst.same (off_from s03 hnD)) .nil, rfl, trivial, (fun i hi => (show i = 0 by simpa using hi) ▸ hrw)⟩ (fun _ _ _ _ _ => trivial) ?_ ?_
    rotate_left
    · rintro σ Hz ⟨ps, ss, acts, u7, rfl, sz, g1, g2, hps, hss, hl, hv, hw'⟩
      dsimp only
      tm_at "vp"
      rename_i L hL
      have sL := same_new hL (u := HO.lst [.ref e1, .ref e2])
      have so : Same (Off [e1, e2] Hz) (upd Hz L (HO.lst [.ref e1, .ref e2])) := off_le.trans sL
      exact k L e1 e2 ps ss acts _ (sz.trans sL) upd_same (sL _ _ g1) (sL _ _ g2) (dps_same so hps) (hss.imp fun _ _ h => h.same so) (by simp at hl; omega) hv hw'
    rintro i y σ Hz Ha hi ⟨ps, ss, acts, u7, rfl, sa, g1, g2, hps, hss, hl, hv, hw'⟩ ⟨rfl, rfl⟩
    simp only [Int.toNat_natCast] at hi
    have hlen1 := runS_len acts s
    have hss' := hss.len
    rw [statesA_len] at hss'
    obtain ⟨lv, hlv, hst1⟩ := hss.get' (statesA_last s acts)
    have hst2 : StL K Ha lv (runS s acts) := hst1.same off_le
    obtain ⟨T, bb, l, ys, rfl, hT, hbb, hl3, hys⟩ := hst2
    have hyl : ys.length = (runS s acts).2.length := by rw [dps_len hys, List.length_map]
    have hD : Lsts [e1, e2] Ha := fun d hd => by
      simp only [List.mem_cons, List.not_mem_nil, or_false] at hd
      rcases hd with rfl | rfl
      · exact ⟨_, g1⟩
      · exact ⟨_, g2⟩
    tm_at "vp"
    refine w_tyL g1 ?_
    tm_at "vp"
    refine w_ixL (SqL.of g2) (v := .ref T) (at_end hss' hlv) ?_
    tm_at "vp"
    refine w_ixT hT (v := .ref l) (at_of' (j := 1) rfl rfl) ?_
    tm_at "vp"
    refine w_lenL (SqL.of hl3) ?_
    rw [hyl]
    tm_at "vp"
    refine ⟨p, a, ws, c, _, [e1, e2], rfl, sa _ _ hp, sa.seq ha, hw, hl1, hl12, c1, c8, by omega, hD, fun wv act H4 s4 hwd hact hacn => ?_⟩
    have g14 := s4 _ _ g1
    have g24 := s4 _ _ g2
    have hpl := dps_len hps
    rw [List.length_map] at hpl
    tm_at "vp"
    refine w_append g14 (sz_lt (by omega)) ?_
    have hps4 := dps_app (dps_same (off_same s4) hps) (.cons hwd .nil)
    have hss4 := hss.imp fun _ _ h => h.same (off_same (D := [e1, e2]) s4)
    have hst4 := hst1.same (off_same (D := [e1, e2]) s4)
    have g15 := @upd_same H4 e1 (HO.lst (ps ++ [wv]))
    have g25 := (upd_ne (H := H4) (o := HO.lst (ps ++ [wv])) (Ne.symm hne)).trans g24
    have s05 := same_mut (u := HO.lst (ps ++ [wv])) (sa.trans s4) he1
    have eo : Off [e1, e2] (upd H4 e1 (HO.lst (ps ++ [wv]))) = Off [e1, e2] H4 := off_upd (List.mem_cons_self ..)
    have hwd5 := hwd
    rw [← eo] at hps4 hss4 hst4 hwd5
    clear eo hwd g14 g24 hst1 hss hps hT hbb hl3 hys
    generalize upd H4 e1 (HO.lst (ps ++ [wv])) = H5 at *
    tm_at "vp"
    refine w_tyL g25 ?_
    tm_at "vp"
    refine w_ixL (SqL.of g25) (v := .ref T) (at_end hss' hlv) ?_
    tm_at "vp"
    refine w_ixL (SqL.of g15) (v := wv) (at_end (n := ps.length) (by rw [List.length_append]; rfl) (by rw [List.getElem?_append_right (Nat.le_refl _), Nat.sub_self]; rfl)) ?_
    have hD5 : Lsts [e1, e2] H5 := fun d hd => by
      simp only [List.mem_cons, List.not_mem_nil, or_false] at hd
      rcases hd with rfl | rfl
      · exact ⟨_, g15⟩
      · exact ⟨_, g25⟩
    tm_at "vp"
    refine ⟨_, wv, c, _, act, [e1, e2], rfl, hst4, hwd5, hact, by omega, hD5, fun sv' H6 s6 hst6 => ?_⟩
    have g16 := s6 _ _ g15
    have g26 := s6 _ _ g25
    tm_at "vp"
    refine w_append g26 (sz_lt (by omega)) ?_
    have hps6 := dps_same (off_same s6) hps4
    have hss6 := hss4.imp fun _ _ h => h.same (off_same (D := [e1, e2]) s6)
    have eo : Off [e1, e2] (upd H6 e2 (HO.lst (ss ++ [sv']))) = Off [e1, e2] H6 := off_upd (List.mem_cons_of_mem _ (List.mem_cons_self ..))
    have g17 := (upd_ne (H := H6) (o := HO.lst (ss ++ [sv'])) hne).trans g16
    have s07 := same_mut (u := HO.lst (ss ++ [sv'])) (s05.trans s6) hn2
    rw [← eo] at hps6 hss6 hst6
    tm_at "vp"
    refine ⟨_, _, acts ++ [act], _, rfl, s07, g17, upd_same, ?_, ?_, ?_, actsV_snoc hv hact (by omega), ?_⟩
    · rw [List.map_append]; exact hps6
    · rw [statesA_snoc]; exact hss6.app (.cons hst6 .nil)
    · rw [List.length_append, hl]; rfl
    · exact runsW_snoc hw' hacn
theorem ok__law_in_groups {P : Program} {w : World} {K : PySem.W.Frag} {mg : Str → Option Value} {base : Heap} (fr : Fre mg) (cl_Collector : ClsF K mg "Collector" ["capacity", "begin", "rows", "past", "busy", "attempts", "__bool__"]) (D : Dfd K mg "_law_in_groups" s__law_in_groups)
    (h__law_drawn : Has P w K mg base CX0 5 "_law_drawn" s__law_drawn ["_law_pool_here", "_law_width", "_law_words_here", "_law_state", "_law_most"] (sp__law_drawn K))
    (h_Collector_do_all : HasMK P w K mg base CX0 10 "Collector" "do_all" "Collector.do_all" s_Collector_do_all [("observer", .non)] ["self", "actions", "observer"] (sp_Collector_do_all K))
    (h__law_deeds : Has P w K mg base CX0 8 "_law_deeds" s__law_deeds ["_law_width", "_law_plains"] (sp__law_deeds K))
    (h_Collector_undo : HasM P w K mg base CX0 10 "Collector" "undo" "Collector.undo" s_Collector_undo [] ["self"] (sp_Collector_undo K))
    (h__law_draw : Has P w K mg base CX0 1 "_law_draw" s__law_draw ["_law_pool_here", "_law_many"] (sp__law_draw K)) : Has P w K mg base CX0 11 "_law_in_groups" s__law_in_groups ["_law_box", "_law_pool_here", "_law_words_here", "_law_plains", "_law_states"] (sp__law_in_groups K) := by
  refine D.has sc__law_in_groups (fun vs H Q E h => ?_) (fun cdv A outer s H vs Q E hr hg h => ?_)
  · obtain ⟨a, dx, c, s, past, att, B, R, P, p, wa, LP, LS, ws, ps, ss, acts, rfl, _⟩ := h; rfl
  · obtain ⟨a, dx, c, s, past, att, B, R, P, p, wa, LP, LS, ws, ps, ss, acts, rfl, ho, hs, hp, hwa, hw, hl1, hl12, hLP, hLS, hps, hss, hv, hsl, hal, hpl, hrw, k⟩ := h
    have nd := sc__law_in_groups.nd
    refine ⟨_, PSs.nox (pss_cons (ps_par (i := 5) (j := 6) rfl nd rfl rfl (by decide) rfl rfl (pa_cons (k_fld K (pv 0) rfl) (pa_cons pe_int pa_nil)) rfl)
      (pss_one (ps_while PassesOwn.never (pt_cmpR op_lt (pv 6) (pe_callB (k_len K) rfl fr.len_ (by decide +kernel) (pa_cons (pv 3) pa_nil)) (nomark _)) (pss_cons (ps_set (i := 7) nd rfl (Or.inl rfl) (pe_ix (k_ixL K) (pe_fn h__law_drawn pb__law_drawn (hr.mono (by decide)) hg rfl pass0 (pa_cons (pv 1) (pa_cons (pv 5) (pa_cons (pv 2) (pa_cons (pe_ix (k_ixL K) (pv 4) (pv 6) (fun _ _ => rfl)) (pa_cons pe_int pa_nil)))))) pe_int (fun _ _ => rfl)))
      (pss_cons (ps_expr (k_mtK K (n := 1) (js := [0, 1, 2]) cl_Collector h_Collector_do_all (by decide) kdm_Collector_do_all (hr.mono (by decide)) hg pass0 (pv 0) (pa_cons (pe_fn h__law_deeds pb__law_deeds (hr.mono (by decide)) hg rfl pass0 (pa_cons (pv 5) (pa_cons (pv 7) pa_nil))) pa_nil) (fun _ vs h => match vs, h with | [_], _ => rfl)))
      (pss_cons (ps_for PassesOwn.never rfl (k_iList K (pv 7)) (pg_name (i := 8) nd rfl (Or.inl rfl))
        (pss_one (ps_expr (pe_mt0 cl_Collector h_Collector_undo bj_Collector_undo_1 (hr.mono (by decide)) hg pass0 (pv 0)))))
      (pss_cons (ps_set (i := 9) nd rfl (Or.inl rfl) (pe_op op_add pe_int (pe_fn h__law_draw pb__law_draw (hr.mono (by decide)) hg rfl pass0 (pa_cons (pv 1) (pa_cons (pe_op op_sub (pe_callB (k_len K) rfl fr.len_ (by decide +kernel) (pa_cons (pv 3) pa_nil)) (pv 6)) pa_nil)))))
      (pss_cons (ps_expr (k_mtK K (n := 1) (js := [0, 1, 2]) cl_Collector h_Collector_do_all (by decide) kdm_Collector_do_all (hr.mono (by decide)) hg pass0 (pv 0) (pa_cons (pe_fn h__law_deeds pb__law_deeds (hr.mono (by decide)) hg rfl pass0 (pa_cons (pv 5) (pa_cons (pe_slice (k_slL K) (pv 3) (po_some (pv 6)) (po_some (pe_op op_add (pv 6) (pv 9)))) pa_nil))) pa_nil) (fun _ vs h => match vs, h with | [_], _ => rfl)))
      (pss_one (ps_set (i := 6) nd rfl (Or.inl rfl) (pe_op op_add (pv 6) (pv 9)))))))))))), ?_⟩
    try dsimp only [cxOf]
    have est : ∀ a0 a1 a2 a3 a4 : V, L2.start N__law_in_groups [a0, a1, a2, a3, a4] = [some a0, some a1, some a2, some a3, some a4, none, none, none, none, none] := fun _ _ _ _ _ => rfl
    simp only [est]
    clear est
    have c1 := hs.1.c1
    have c8 := hs.1.c8
    have hpsl := dps_len hps
    rw [List.length_map] at hpsl
    have hssl := hss.len
    rw [statesA_len] at hssl
    tm_at "vp"
    refine w_colCap cl_Collector ho ?_
    tm_at "vp"
    refine w_while3 (fun μ σ H' => ∃ (j : Nat) (att' : Int) (B' R' P' : V) (u7 u8 u9 : Option V), j + μ = acts.length ∧ σ = [some (.ref a), some (.ref p), some (.ref wa), some (.ref LP), some (.ref LS), some (.int c), some (.int (j : Nat)), u7, u8, u9] ∧ SameB a H H' ∧ ColO K H' a c (runS s (acts.take j)) (past ++ histA s (acts.take j)) false att' dx B' R' P')
      (fun σ H' => ∃ (att' : Int) (B' R' P' : V), SameB a H H' ∧ ColO K H' a c (runS s acts) (past ++ histA s acts) false att' dx B' R' P') acts.length
      ⟨0, att, B, R, P, none, none, none, by omega, rfl, fun _ _ _ h => h, by rw [List.take_zero]; show ColO K H a c s (past ++ []) false att dx B R P; rw [List.append_nil]; exact ho⟩ ?_ ?_
    · rintro σ Hz ⟨att', B', R', P', sz, hz⟩
      dsimp only
      exact k _ B' R' P' att' sz hz
    intro hx μ σ H1 ⟨j, att1, B1, R1, P1, u7, u8, u9, hj, eσ, sb1, ho1⟩
    subst eσ
    have c01 := ho.ch sb1
    have hLP1 := sql_c c01 hLP
    tm_at "vp"
    refine w_lenL hLP1 ?_
    rw [hpsl]
    tm_at "vp"
    by_cases hlt : j < acts.length
    rotate_left
    · rw [if_neg (by simpa using hlt)]
      have : j = acts.length := by omega
      subst this
      rw [List.take_length] at ho1
      exact hx _ _ ⟨att1, B1, R1, P1, sb1, ho1⟩
    rw [if_pos (by simpa using hlt)]
    refine w_whc ?_
    have hpast1 : (past ++ histA s (acts.take j)).length + acts.length ≤ 2000 := by rw [List.length_append, histA_len, List.length_take]; omega
    have hsv1 := actsV_ok _ hs (actsV_take j hv)
    have hln1 := runS_len (acts.take j) s
    rw [List.length_take] at hln1
    have hrest := actsV_drop j hv
    have erun : runS (runS s (acts.take j)) (acts.drop j) = runS s acts := runS_cut s acts j
    obtain ⟨lv, hlv, hst⟩ := hss.get' (statesA_at s acts j (by omega))
    have hst1 := hst.c c01
    have hp1 := pool_c c01 hp
    have hwa1 := sql_c c01 hwa
    have hrw1 := hrw j (by omega)
    generalize hsi : runS s (acts.take j) = si at *
    generalize hpa : past ++ histA s (acts.take j) = pasti at *
    tm_at "vp"
    refine w_ixL (sql_c c01 hLS) (v := lv) (at_of' (j := j) rfl hlv) ?_
    tm_at "vp"
    refine ⟨p, wa, ws, c, lv, si, 2, rfl, hp1, hwa1, hw, hl1, hl12, c1, c8, hst1, hsv1, by omega, hrw1, fun L LPm LSm ms mss more H2 s2 gL gLP gLS hms hmss hml hmv hmw => ?_⟩
    have hmsl := dps_len hms
    rw [List.length_map] at hmsl
    refine w_ixL (SqL.of gL) (v := .ref LPm) (at_of' (j := 0) rfl rfl) ?_
    have ho2 := ho1.same s2
    tm_at "vp"
    refine w_colM ho2 (by decide +kernel) ?_
    tm_at "vp"
    refine ⟨c, .ref LPm, more, rfl, .lst (SqL.of gLP) hms, fun b hb => let ⟨n, _, h⟩ := acts_mem hmv hb; ⟨n, h⟩, by omega, fun T1 xs1 H3 s3 hT1 hx1 => ?_⟩
    have ho3 := ho2.same s3
    tm_at "vp"
    refine ⟨a, dx, c, si, pasti, att1, B1, R1, P1, T1, xs1, more, rfl, ho3, hsv1, SqT.of hT1, hx1, hmv, by omega, by omega, fun v' H4 B4 R4 P4 b4 ho4 _ _ _ => ?_⟩
    have sb4 := (sb1.trans (same_b (s2.trans s3))).trans b4
    have c24 : SameC H2 H4 := (SameC.of s3).trans (ho3.ch b4)
    have gLP4 := lst_c c24 gLP
    clear ho1 ho2 ho3 sb1 b4 gLS hmss gL hT1 hx1
    generalize att1 + 1 = att4 at *
    tm_at "vp"
    refine w_onL (SqL.of gLP4) ?_
    have mlen := hmsl
    refine for_go (walk_list (xs := ms)) (fun i σ H' => ∃ (B' R' P' : V) (u8 : Option V), σ = [some (.ref a), some (.ref p), some (.ref wa), some (.ref LP), some (.ref LS), some (.int c), some (.int (j : Nat)), some (.ref LPm), u8, u9] ∧ SameB a H4 H' ∧ ColO K H' a c (runS si (more.take (more.length - i))) (pasti ++ histA si (more.take (more.length - i))) false att4 dx B' R' P') ⟨B4, R4, P4, u8, rfl, fun _ _ _ h => h, by rw [Nat.sub_zero, List.take_length]; exact ho4⟩ (fun i σ H' _ ⟨_, _, _, _, _, sb, _⟩ => sql_c (ho4.ch sb) (SqL.of gLP4)) ?_ ?_
    rotate_left
    · rintro σ Hz ⟨B5, R5, P5, u8', rfl, sb5, ho5⟩
      rw [mlen, Nat.sub_self, List.take_zero] at ho5
      have ho6 : ColO K Hz a c si pasti false att4 dx B5 R5 P5 := by
        have : ColO K Hz a c si (pasti ++ []) false att4 dx B5 R5 P5 := ho5
        rwa [List.append_nil] at this
      have sb6 := sb4.trans sb5
      have c06 := ho.ch sb6
      clear ho5 ho4 sb4 gLP4 c24 hms gLP hmv hmw
      dsimp only
      tm_at "vp"
      refine w_lenL (sql_c c06 hLP) ?_
      rw [hpsl]
      tm_at "vp"
      refine ⟨p, _, rfl, pool_c c06 hp, by omega, by omega, fun r H7 r0 r1 s7 => ?_⟩
      obtain ⟨rn, rfl⟩ := Int.eq_ofNat_of_zero_le r0
      have ho7 := ho6.same s7
      have c07 := c06.trans (SameC.of s7)
      tm_at "vp"
      refine w_colM ho7 (by decide +kernel) ?_
      tm_at "vp"
      rw [show ((j : Nat) : Int) + (1 + ((rn : Nat) : Int)) = ((j + (rn + 1) : Nat) : Int) by omega]
      refine w_slL (sql_c c07 hLP) fun p1 hp1' => ?_
      rw [cutV_two]
      have s8 := same_new hp1' (u := HO.lst ((ps.drop j).take (rn + 1)))
      have f8 := @upd_same H7 p1 (HO.lst ((ps.drop j).take (rn + 1)))
      generalize upd H7 p1 (HO.lst ((ps.drop j).take (rn + 1))) = H8 at *
      have c08 := c07.trans (SameC.of s8)
      have hps8 : DpAll K H8 ((ps.drop j).take (rn + 1)) (((acts.drop j).take (rn + 1)).map actD) := by
        rw [List.map_take, List.map_drop]
        exact dps_take _ (dps_drop _ (dps_c c08 hps))
      have hvd := actsV_take (rn + 1) hrest
      have hdl : ((acts.drop j).take (rn + 1)).length = rn + 1 := by rw [List.length_take, List.length_drop]; omega
      have etk : acts.take (j + (rn + 1)) = acts.take j ++ (acts.drop j).take (rn + 1) := List.take_add
      tm_at "vp"
      refine ⟨c, .ref p1, _, rfl, .lst (SqL.of f8) hps8, fun b hb => let ⟨n, _, h⟩ := acts_mem hvd hb; ⟨n, h⟩, by omega, fun T1 xs1 H9 s9 hT1 hx1 => ?_⟩
      have ho9 := ho7.same (s8.trans s9)
      tm_at "vp"
      refine ⟨a, dx, c, si, pasti, att4, B5, R5, P5, T1, xs1, _, rfl, ho9, hsv1, SqT.of hT1, hx1, hvd, by omega, by omega, fun v' H10 B10 R10 P10 b10 ho10 _ _ _ => ?_⟩
      have sb10 := (sb6.trans (same_b (s7.trans (s8.trans s9)))).trans b10
      tm_at "vp"
      rw [← hsi, ← runS_app, ← etk, ← hpa, List.append_assoc, ← histA_app, ← etk] at ho10
      rw [show ((j : Nat) : Int) + (1 + ((rn : Nat) : Int)) = ((j + (rn + 1) : Nat) : Int) by omega]
      exact ⟨μ - (rn + 1), by omega, j + (rn + 1), _, B10, R10, P10, _, _, _, by omega, rfl, sb10, ho10⟩
    rintro i y σ Ha Hb hi ⟨B5, R5, P5, u8', rfl, sb5, ho5⟩ ⟨rfl, hy⟩
    obtain ⟨n, hn⟩ : ∃ n, more.length - i = n + 1 := ⟨more.length - i - 1, by omega⟩
    obtain ⟨act, ea, eh⟩ := hist_last (s := si) (acts := more) (n := n) (by omega)
    rw [hn, eh, ← List.append_assoc] at ho5
    have hsv5 := actsV_ok _ hsv1 (actsV_take n hmv)
    have hln5 := runS_len (more.take n) si
    rw [List.length_take] at hln5
    have hpl5 : (pasti ++ histA si (more.take n)).length ≤ 5000 := by rw [List.length_append, histA_len, List.length_take]; omega
    tm_at "vp"
    refine w_colM ho5 (by decide +kernel) ?_
    tm_at "vp"
    refine ⟨a, dx, c, _, _, act, _, att4, B5, R5, P5, rfl, ho5, hsv5, by omega, hpl5, fun v' H6 B6 R6 P6 b6 ho6 _ _ _ => ?_⟩
    tm_at "vp"
    refine ⟨B6, R6, P6, _, rfl, sb5.trans b6, ?_⟩
    rw [show more.length - (i + 1) = n by omega]
    exact ho6
theorem ok__law_all_told {P : Program} {w : World} {K : PySem.W.Frag} {mg : Str → Option Value} {base : Heap} (fr : Fre mg) (cl_Collector : ClsF K mg "Collector" ["capacity", "begin", "rows", "past", "busy", "attempts", "__bool__"]) (cl_Summary : ClsF K mg "Summary" ["capacity", "counts", "__bool__"]) (et_Summary___init___0 : ∀ H : Hp, SqT K H (dflA "Summary" "__init__" 0 K) []) (kx_Collector_Summary : PySem.W.kitOne K (.ref (He.ga K "Collector")) (.ref (He.ga K "Summary")) = some false) (kx_Summary_Collector : PySem.W.kitOne K (.ref (He.ga K "Summary")) (.ref (He.ga K "Collector")) = some false) (D : Dfd K mg "_law_all_told" s__law_all_told)
    (h_Collector___repr__ : HasM P w K mg base CX0 1 "Collector" "__repr__" "Collector.__repr__" s_Collector___repr__ [] ["self"] (sp_Collector___repr__ K))
    (h_Collector___str__ : HasM P w K mg base CX0 9 "Collector" "__str__" "Collector.__str__" s_Collector___str__ [] ["self"] (sp_Collector___str__ K))
    (h_Collector___len__ : HasM P w K mg base CX0 1 "Collector" "__len__" "Collector.__len__" s_Collector___len__ [] ["self"] (sp_Collector___len__ K))
    (h_Collector_arrived : HasM P w K mg base CX0 2 "Collector" "arrived" "Collector.arrived" s_Collector_arrived [] ["self"] (sp_Collector_arrived K))
    (h_Collector_current : HasM P w K mg base CX0 9 "Collector" "current" "Collector.current" s_Collector_current [] ["self"] (sp_Collector_current K))
    (h_Collector_entries : HasM P w K mg base CX0 1 "Collector" "entries" "Collector.entries" s_Collector_entries [] ["self"] (sp_Collector_entries K))
    (h_Collector_start : HasM P w K mg base CX0 1 "Collector" "start" "Collector.start" s_Collector_start [] ["self"] (sp_Collector_start K))
    (h_Summary___repr__ : HasMA P w K mg base CX0 2 "Summary" "__repr__" "Summary.__repr__" s_Summary___repr__ [] ["self"] (sp_Summary___repr__ K))
    (h_Collector_preview : HasM P w K mg base CX0 9 "Collector" "preview" "Collector.preview" s_Collector_preview [] ["self", "actions"] (sp_Collector_preview K))
    (h_Summary___init__ : HasM P w K mg base CX0 5 "Summary" "__init__" "Summary.__init__" s_Summary___init__ [.ref (dflA "Summary" "__init__" 0 K)] ["self", "capacity", "counts"] (sp_Summary___init__ K)) : Has P w K mg base CX0 12 "_law_all_told" s__law_all_told ["_law_box", "_law_at", "_law_word"] (sp__law_all_told K) := by
  refine D.has sc__law_all_told (fun vs H Q E h => ?_) (fun cdv A outer s H vs Q E hr hg h => ?_)
  · obtain ⟨a, dx, c, s, past, busy, att, B, R, P, j, w, rfl, _⟩ := h; rfl
  · obtain ⟨a, dx, c, s, past, busy, att, B, R, P, j, w, rfl, ho, hs, hl, h12, hj, hw, k⟩ := h
    have nd := sc__law_all_told.nd
    refine ⟨_, PSs.nox (pss_cons (ps_set (i := 3) nd rfl (Or.inl rfl) (pe_lst (pa_cons (k_fld K (pv 0) rfl) (pa_cons (pe_mt0 cl_Collector h_Collector_start bj_Collector_start_1 (hr.mono (by decide)) hg pass0 (pv 0)) (pa_cons (pe_mt0 cl_Collector h_Collector_entries bj_Collector_entries_1 (hr.mono (by decide)) hg pass0 (pv 0)) (pa_cons (pe_mt0 cl_Collector h_Collector_current bj_Collector_current_1 (hr.mono (by decide)) hg pass0 (pv 0)) (pa_cons (pe_mt0 cl_Collector h_Collector_arrived bj_Collector_arrived_1 (hr.mono (by decide)) hg pass0 (pv 0)) (pa_cons (pe_callB (s_len K h_Collector___len__ bj_Collector___len___1 (hr.mono (by decide)) hg pass0) rfl fr.len_ (by decide +kernel) (pa_cons (pv 0) pa_nil)) (pa_cons (pe_callTy (s_str K h_Collector___str__ bj_Collector___str___1 (hr.mono (by decide)) hg pass0) rfl fr.str_ (by decide +kernel) (pa_cons (pv 0) pa_nil)) (pa_cons (pe_callB (s_repr K h_Collector___repr__ bj_Collector___repr___1 (hr.mono (by decide)) hg pass0) rfl fr.repr_ (by decide +kernel) (pa_cons (pv 0) pa_nil)) pa_nil))))))))))
      (pss_one (ps_ret (pe_callB (k_reprU K h_Summary___repr__ bj_Summary___repr___1 (hr.mono (by decide)) hg hr.units) rfl fr.repr_ (by decide +kernel) (pa_cons (pe_op op_cat (pv 3) (pe_lst (pa_cons (pe_mt cl_Collector h_Collector_preview bj_Collector_preview_2 (hr.mono (by decide)) hg pass0 (pv 0) (pa_cons (pe_tup (pa_cons (pe_tup (pa_cons pe_str (pa_cons (pv 1) (pa_cons (pv 2) (pa_cons pe_int pa_nil))))) (pa_cons (pe_tup (pa_cons pe_str (pa_cons (pe_mk cl_Summary h_Summary___init__ bj_Summary___init___2 (hr.mono (by decide)) hg rfl pass0 (pa_cons (k_fld K (pv 0) rfl) pa_nil)) pa_nil))) pa_nil))) pa_nil)) pa_nil))) pa_nil))))), ?_⟩
    try dsimp only [cxOf]
    have est : ∀ a0 a1 a2 : V, L2.start N__law_all_told [a0, a1, a2] = [some a0, some a1, some a2, none] := fun _ _ _ => rfl
    simp only [est]
    clear est
    have c1 := hs.1.c1
    have c8 := hs.1.c8
    tm_at "vp"
    refine w_colCap cl_Collector ho ?_
    tm_at "vp"
    refine w_colM ho (by decide +kernel) ?_
    tm_at "vp"
    refine ⟨a, dx, c, s, past, busy, att, B, R, P, rfl, ho, ?_⟩
    tm_at "vp"
    refine w_colM ho (by decide +kernel) ?_
    tm_at "vp"
    refine ⟨a, dx, c, s, past, busy, att, B, R, P, rfl, ho, ?_⟩
    tm_at "vp"
    refine w_colM ho (by decide +kernel) ?_
    tm_at "vp"
    refine ⟨a, dx, c, s, past, busy, att, B, R, P, rfl, ho, hs, by omega, fun v3 H3 s3 hv3 hS3 hB3 => ?_⟩
    have ho3 := ho.same s3
    tm_at "vp"
    refine w_colM ho3 (by decide +kernel) ?_
    tm_at "vp"
    refine ⟨a, dx, c, s, past, busy, att, B, R, P, rfl, ho3, hs, by omega, h12, fun v4 ps H4 s4 hd4 hcan hmem => ?_⟩
    obtain ⟨hbs, hbl⟩ := runs_bag hs.2.2 (by omega) hcan hmem h12
    have ho4 := ho3.same s4
    tm_at "vp"
    refine w_lenCol ho4 ?_
    refine ⟨a, dx, c, s, past, busy, att, B, R, P, rfl, ho4, ⟨_, rfl, by omega, by omega, ?_⟩⟩
    tm_at "vp"
    refine w_strCol ho4 ?_
    refine ⟨a, dx, c, s, past, busy, att, B, R, P, rfl, ho4, hs, by omega, fun H5 s5 => ⟨_, rfl, ?_⟩⟩
    have ho5 := ho4.same s5
    tm_at "vp"
    refine w_strCol ho5 ?_
    refine ⟨a, dx, c, s, past, busy, att, B, R, P, rfl, ho5, by omega, c8, by omega, fun H6 s6 => ⟨_, rfl, ?_⟩⟩
    tm_at "vp"
    rename_i L hL
    have s7 := same_new hL (u := HO.lst [.int c, B, R, v3, v4, .int ((s.2.length : Nat) : Int), .str (cText (nowT c s.1 s.2)), .str (colT c s.2.length)])
    have f7 := @upd_same H6 L (HO.lst [.int c, B, R, v3, v4, .int ((s.2.length : Nat) : Int), .str (cText (nowT c s.1 s.2)), .str (colT c s.2.length)])
    rw [show ("Collector(" : Str) ++ intS c ++ (", " : Str) ++ intS (s.2.length : Nat) ++ (" entries)" : Str) = colT c s.2.length from rfl]
    generalize upd H6 L (HO.lst [.int c, B, R, v3, v4, .int ((s.2.length : Nat) : Int), .str (cText (nowT c s.1 s.2)), .str (colT c s.2.length)]) = H7 at *
    have s37 := s4.trans (s5.trans (s6.trans s7))
    have s47 := s5.trans (s6.trans s7)
    have ho7 := ho3.same s37
    clear s4 s5 s6 s7 ho4 ho5 hL
    tm_at "vp"
    refine w_colM ho7 (by decide +kernel) ?_
    tm_at "vp"
    rename_i i1 hi1
    have t1 := same_new hi1 (u := HO.tup [.str "insert", .int (j : Nat), .str w, .int 3])
    have g1 := @upd_same H7 i1 (HO.tup [.str "insert", .int (j : Nat), .str w, .int 3])
    generalize upd H7 i1 (HO.tup [.str "insert", .int (j : Nat), .str w, .int 3]) = G1 at *
    refine w_colCap cl_Collector (ho7.same t1) ?_
    tm_at "vp"
    have hv0 : SumV c [] := ⟨c1, c8, ⟨.nil, nofun, nofun⟩, by show (0 : Int) ≤ c; omega⟩
    refine w_mkSum (fun _ => rfl) (.tup (et_Summary___init___0 _) .nil) hv0 fun sm G2 t2 hsm => ?_
    tm_at "vp"
    rename_i i2 hi2 i3 hi3
    have t3 := same_new hi2 (u := HO.tup [.str "start", sm])
    have g3 := @upd_same G2 i2 (HO.tup [.str "start", sm])
    generalize upd G2 i2 (HO.tup [.str "start", sm]) = G3 at *
    have t4 := same_new hi3 (u := HO.tup [.ref i1, .ref i2])
    have g4 := @upd_same G3 i3 (HO.tup [.ref i1, .ref i2])
    generalize upd G3 i3 (HO.tup [.ref i1, .ref i2]) = G4 at *
    have hdeeds : All2 (DeedO K G4 c) [.ref i1, .ref i2] [.insert j w 3, .start []] := .cons ⟨i1, .non, rfl, t4 _ _ (t3 _ _ (t2 _ _ g1)), trivial⟩ (.cons ⟨i2, sm, rfl, t4 _ _ g3, sum_same (t3.trans t4) hsm⟩ .nil)
    have t04 := t1.trans (t2.trans (t3.trans t4))
    have ho8 := ho7.same t04
    clear t1 t2 t3 t4 g1 g3 hsm hi1 hi2 hi3
    have hln1 := stepA_len s (.insert j w 3)
    have hav : ActsV c s [.insert j w 3, .start []] := ⟨⟨hj, hw, by decide, by decide⟩, by omega, ⟨hv0, by decide⟩, by omega, trivial⟩
    refine ⟨a, dx, c, s, past, busy, att, B, R, P, i3, _, _, rfl, ho8, hs, SqT.of g4, hdeeds, hav, by omega, by show 2 ≤ 5000; decide, fun v5 G5 t5 hv5 hS5 hB5 => ?_⟩
    tm_at "vp"
    rename_i l2 hl2
    have t6 := same_new hl2 (u := HO.lst [v5])
    have g6 := @upd_same G5 l2 (HO.lst [v5])
    have f9 := hp_new (t5 _ _ (t04 _ _ f7)) hl2 (u := HO.lst [v5])
    generalize upd G5 l2 (HO.lst [v5]) = G6 at *
    refine w_cat f9 g6 (by exact sz_le (by show 8 + 1 ≤ _; decide)) fun M hM => ?_
    have t7 := same_new hM (u := HO.lst ([.int c, B, R, v3, v4, .int ((s.2.length : Nat) : Int), .str (cText (nowT c s.1 s.2)), .str (colT c s.2.length)] ++ [v5]))
    have g7 := @upd_same G6 M (HO.lst ([.int c, B, R, v3, v4, .int ((s.2.length : Nat) : Int), .str (cText (nowT c s.1 s.2)), .str (colT c s.2.length)] ++ [v5]))
    generalize upd G6 M (HO.lst ([.int c, B, R, v3, v4, .int ((s.2.length : Nat) : Int), .str (cText (nowT c s.1 s.2)), .str (colT c s.2.length)] ++ [v5])) = G7 at *
    have t57 := t6.trans t7
    have sAll := s3.trans (s37.trans (t04.trans (t5.trans t57)))
    have s3x := s37.trans (t04.trans (t5.trans t57))
    have s4x := s47.trans (t04.trans (t5.trans t57))
    have hoz := ho.same sAll
    have hown : ∀ v qs, SumO K G7 v c qs → SumV c qs → BagS qs → OwnR K "Summary" (sp_Summary___repr__ K) [0] G7 v (rText c qs) := fun v qs ho hv hb => by
      obtain ⟨na, nx, bv, rfl, h1, h2⟩ := ho
      exact ⟨na, nx, _, rfl, h1, fun H0 s0 => ⟨.ref na, c, qs, rfl, sum_x s0 ⟨na, nx, bv, rfl, h1, h2⟩, hv, hb, fun H'' s' => ⟨rfl, s'⟩⟩⟩
    obtain ⟨t, d, hT, hsw, hd5, htl⟩ := told_sw (s2 := runS s [.insert j w 3, .start []]) hown hs hl hoz.beg hoz.rows (sum_same s3x hv3) hS3 hB3 (dp_same s4x hd4) hbs hbl hcan (sum_same t57 hv5) hS5 hB5 g7
    exact w_reprUo hsw hd5 (.inl g7) htl fun G8 t8 => k t G8 (sAll.trans t8) hT
theorem ok__law_all_same {P : Program} {w : World} {K : PySem.W.Frag} {mg : Str → Option Value} {base : Heap} (fr : Fre mg) (cl_Collector : ClsF K mg "Collector" ["capacity", "begin", "rows", "past", "busy", "attempts", "__bool__"]) (D : Dfd K mg "_law_all_same" s__law_all_same)
    (h__law_all_told : Has P w K mg base CX0 12 "_law_all_told" s__law_all_told ["_law_box", "_law_at", "_law_word"] (sp__law_all_told K))
    (h_Collector___eq__ : HasM P w K mg base CX0 3 "Collector" "__eq__" "Collector.__eq__" s_Collector___eq__ [] ["self", "other"] (sp_Collector___eq__ K)) : Has P w K mg base CX0 13 "_law_all_same" s__law_all_same ["_law_boxes", "_law_at", "_law_word"] (sp__law_all_same K) := by
  refine D.has sc__law_all_same (fun vs H Q E h => ?_) (fun cdv A outer s H vs Q E hr hg h => ?_)
  · obtain ⟨L, xs, c, s, j, w, rfl, _⟩ := h; rfl
  · obtain ⟨L, xs, c, s, j, w, rfl, hL, hx1, hx2, hx, hs, hl, h12, hj, hw, k⟩ := h
    have nd := sc__law_all_same.nd
    refine ⟨_, PSs.nox (pss_cons (ps_set (i := 3) nd rfl (Or.inl rfl) (pe_fn h__law_all_told pb__law_all_told (hr.mono (by decide)) hg rfl pass0 (pa_cons (pe_ix (k_ixL K) (pv 0) pe_int (fun _ _ => rfl)) (pa_cons (pv 1) (pa_cons (pv 2) pa_nil)))))
      (pss_cons (ps_for PassesOwn.never rfl (k_iList K (pv 0)) (pg_name (i := 4) nd rfl (Or.inr rfl))
        (pss_one (ps_if (PW.pt (pw_or (pt_not (pt_val (pe_callB (k_all K rfl) rfl fr.all_ (by decide +kernel) (pa_cons (pe_lc (own := [("_law_mate", 5)]) (g := gName 5) (tt := tYes) rfl nd (k_iList K (pv 0)) (blkOk_by (own := [("_law_mate", 5)]) (N := N__law_all_same) (sc := defScope s__law_all_same) (by decide +kernel)) (fun _ _ _ _ _ => (pg_name (i := 5) nd rfl (Or.inl rfl))) (fun _ _ _ _ _ => pts_nil) (fun _ _ _ _ _ => (pe_and (pe_cmpR (s_eqA K h_Collector___eq__ bj_Collector___eq___2 (hr.mono (by decide)) hg pass0) (pv 4) (pv 5) (nomark _)) (pe_one (pe_not (pe_cmpR (s_neA K cl_Collector h_Collector___eq__ bj_Collector___eq___2 (hr.mono (by decide)) hg pass0) (pv 4) (pv 5) (nomark _))))))) pa_nil)))) (pw_or1 (pt_cmpR op_ne (pe_fn h__law_all_told pb__law_all_told (hr.mono (by decide)) hg rfl pass0 (pa_cons (pv 4) (pa_cons (pv 1) (pa_cons (pv 2) pa_nil)))) (pv 3) (nomark _))))) (pss_one (ps_ret pe_bl)) pss_nil)))
      (pss_one (ps_ret pe_bl)))), ?_⟩
    try dsimp only [cxOf]
    have est : ∀ a0 a1 a2 : V, L2.start N__law_all_same [a0, a1, a2] = [some a0, some a1, some a2, none, none, none] := fun _ _ _ => rfl
    simp only [est]
    clear est
    obtain ⟨v0, hv0⟩ : ∃ v, xs[0]? = some v := ⟨_, List.getElem?_eq_getElem (by omega)⟩
    obtain ⟨a0, dx0, past0, busy0, att0, B0, R0, P0, rfl, ho0⟩ := hx v0 (List.mem_of_getElem? hv0)
    tm_at "vp"
    refine w_ixL (SqL.of hL) (v := .ref a0) (at_of' (j := 0) rfl hv0) ?_
    tm_at "vp"
    refine ⟨a0, dx0, c, s, past0, busy0, att0, B0, R0, P0, j, w, rfl, ho0, hs, hl, h12, hj, hw, fun t H1 s1 hT => ?_⟩
    tm_at "vp"
    simp only [List.set_cons_zero, List.set_cons_succ]
    have hL1 := s1 _ _ hL
    refine w_onL (SqL.of hL1) ?_
    refine for_go (walk_list (xs := xs)) (fun i σ H' => ∃ (u4 : Option V), σ = [some (.ref L), some (.int (j : Nat)), some (.str w), some (.str t), u4, none] ∧ Same H1 H') ⟨none, rfl, Same.refl _⟩ (fun i σ H' _ ⟨_, _, s⟩ => s.seq (SqL.of hL1)) ?_ ?_
    rotate_left
    · rintro σ Hz ⟨u4, rfl, sz⟩
      dsimp only
      tm_at "vp"
      exact k _ (s1.trans sz)
    rintro i y σ Ha Hb hi ⟨u4, rfl, sa⟩ ⟨rfl, hy⟩
    have s02 := s1.trans sa
    obtain ⟨a, dx, past, busy, att, B, R, P, rfl, ho⟩ := (hx y (List.mem_of_getElem? hy)).same s02
    simp only [List.set_cons_zero, List.set_cons_succ]
    tm_at "vp"
    refine w_onL (SqL.of (s02 _ _ hL)) ?_
    intro D hD
    refine lc_map (walk_list (xs := xs)) (by omega) (fun i y => y = .bl true) hD (fun _ s => s.seq (SqL.of (s02 _ _ hL))) ?_ ?_ mono_gname
    · rintro i2 y2 G1 G2 hi2 sg ⟨rfl, hy2⟩ Qy hq
      obtain ⟨a2, dx2, past2, busy2, att2, B2, R2, P2, rfl, ho2⟩ := (hx y2 (List.mem_of_getElem? hy2)).same (s02.trans sg)
      have ho1 := ho.same sg
      refine w_gname ⟨rfl, ?_⟩
      tm_at "vp"
      refine w_cmpCol cl_Collector ho1 ho2 ?_
      refine ⟨a, a2, dx, dx2, c, s, s, past, past2, busy, busy2, att, att2, B, R, P, B2, R2, P2, rfl, ho1, ho2, hs, hs, .inl ⟨rfl, fun G3 s3 => ⟨_, rfl, ?_⟩⟩⟩
      tm_at "vp"
      rw [if_pos (by decide)]
      tm_at "vp"
      have ho13 := ho1.same s3
      have ho23 := ho2.same s3
      refine w_cmpCol cl_Collector ho13 ho23 ?_
      refine ⟨a, a2, dx, dx2, c, s, s, past, past2, busy, busy2, att, att2, B, R, P, B2, R2, P2, rfl, ho13, ho23, hs, hs, .inl ⟨rfl, fun G4 s4 => ⟨_, rfl, ?_⟩⟩⟩
      tm_at "vp"
      exact hq _ _ (s3.trans s4) rfl
    intro acc H3 s3 _ hacc hal hf
    tm_at "vp"
    refine w_allT hacc hf ?_
    tm_at "vp"
    have ho3 := ho.same s3
    refine ⟨a, dx, c, s, past, busy, att, B, R, P, j, w, rfl, ho3, hs, hl, h12, hj, hw, fun t' H4 s4 hT' => ?_⟩
    cases told_uq hT hT'
    tm_at "vp"
    rw [if_neg (by simp)]
    tm_at "vp"
    exact ⟨_, rfl, sa.trans (s3.trans s4)⟩
theorem ok__law_right {P : Program} {w : World} {K : PySem.W.Frag} {mg : Str → Option Value} {base : Heap} (fr : Fre mg) (cl_Collector : ClsF K mg "Collector" ["capacity", "begin", "rows", "past", "busy", "attempts", "__bool__"]) (cl_Summary : ClsF K mg "Summary" ["capacity", "counts", "__bool__"]) (et_Summary___init___0 : ∀ H : Hp, SqT K H (dflA "Summary" "__init__" 0 K) []) (kx_Collector_Summary : PySem.W.kitOne K (.ref (He.ga K "Collector")) (.ref (He.ga K "Summary")) = some false) (kx_Summary_Collector : PySem.W.kitOne K (.ref (He.ga K "Summary")) (.ref (He.ga K "Collector")) = some false) (D : Dfd K mg "_law_right" s__law_right)
    (h__law_words : Has P w K mg base CX0 2 "_law_words" s__law_words ["_law_pool_here", "_law_many"] (sp__law_words K))
    (h__law_draw : Has P w K mg base CX0 1 "_law_draw" s__law_draw ["_law_pool_here", "_law_many"] (sp__law_draw K))
    (h__law_drawn : Has P w K mg base CX0 5 "_law_drawn" s__law_drawn ["_law_pool_here", "_law_width", "_law_words_here", "_law_state", "_law_most"] (sp__law_drawn K))
    (h__law_deeds : Has P w K mg base CX0 8 "_law_deeds" s__law_deeds ["_law_width", "_law_plains"] (sp__law_deeds K))
    (h_Collector___init__ : HasM P w K mg base CX0 7 "Collector" "__init__" "Collector.__init__" s_Collector___init__ [] ["self", "capacity"] (sp_Collector___init__ K))
    (h_Collector_do : HasM P w K mg base CX0 10 "Collector" "do" "Collector.do" s_Collector_do [] ["self", "action"] (sp_Collector_do K))
    (h_Collector_do_all : HasMK P w K mg base CX0 10 "Collector" "do_all" "Collector.do_all" s_Collector_do_all [("observer", .non)] ["self", "actions", "observer"] (sp_Collector_do_all K))
    (h__law_in_groups : Has P w K mg base CX0 11 "_law_in_groups" s__law_in_groups ["_law_box", "_law_pool_here", "_law_words_here", "_law_plains", "_law_states"] (sp__law_in_groups K))
    (h_Collector_restart : HasM P w K mg base CX0 11 "Collector" "restart" "Collector.restart" s_Collector_restart [] ["self", "summary"] (sp_Collector_restart K))
    (h_Collector_start : HasM P w K mg base CX0 1 "Collector" "start" "Collector.start" s_Collector_start [] ["self"] (sp_Collector_start K))
    (h_Collector_entries : HasM P w K mg base CX0 1 "Collector" "entries" "Collector.entries" s_Collector_entries [] ["self"] (sp_Collector_entries K))
    (h_is_summary : Has P w K mg base CX0 1 "is_summary" s_is_summary ["thing"] (sp_is_summary K))
    (h_Collector_merge : HasM P w K mg base CX0 11 "Collector" "merge" "Collector.merge" s_Collector_merge [] ["self", "summary"] (sp_Collector_merge K))
    (h_Collector_arrive : HasM P w K mg base CX0 11 "Collector" "arrive" "Collector.arrive" s_Collector_arrive [.int 1] ["self", "name", "times"] (sp_Collector_arrive K))
    (h_Collector___len__ : HasM P w K mg base CX0 1 "Collector" "__len__" "Collector.__len__" s_Collector___len__ [] ["self"] (sp_Collector___len__ K))
    (h__law_told_right : Has P w K mg base CX0 12 "_law_told_right" s__law_told_right ["_law_box", "_law_width", "_law_state"] (sp__law_told_right K))
    (h__law_all_same : Has P w K mg base CX0 13 "_law_all_same" s__law_all_same ["_law_boxes", "_law_at", "_law_word"] (sp__law_all_same K))
    (h_Summary___repr__ : HasMA P w K mg base CX0 2 "Summary" "__repr__" "Summary.__repr__" s_Summary___repr__ [] ["self"] (sp_Summary___repr__ K))
    (h_Collector_history : HasM P w K mg base CX0 1 "Collector" "history" "Collector.history" s_Collector_history [] ["self"] (sp_Collector_history K))
    (h_Collector_undo : HasM P w K mg base CX0 10 "Collector" "undo" "Collector.undo" s_Collector_undo [] ["self"] (sp_Collector_undo K))
    (h_Collector_current : HasM P w K mg base CX0 9 "Collector" "current" "Collector.current" s_Collector_current [] ["self"] (sp_Collector_current K))
    (h__law_now : Has P w K mg base CX0 3 "_law_now" s__law_now ["_law_width", "_law_state"] (sp__law_now K))
    (h_Collector___eq__ : HasM P w K mg base CX0 3 "Collector" "__eq__" "Collector.__eq__" s_Collector___eq__ [] ["self", "other"] (sp_Collector___eq__ K)) : Has P w K mg base CX0 14 "_law_right" s__law_right ["_law_pool_here"] (sp__law_right K) := by
  refine D.has sc__law_right (fun vs H Q E h => ?_) (fun cdv A outer s H vs Q E hr hg h => ?_)
  · obtain ⟨p, rfl, _⟩ := h; rfl
  · obtain ⟨p, rfl, hp, k⟩ := h
    have nd := sc__law_right.nd
    refine ⟨_, PSs.nox (pss_cons (ps_asg (pe_tup (pa_cons (pe_op op_add pe_int (pe_fn h__law_draw pb__law_draw (hr.mono (by decide)) hg rfl pass0 (pa_cons (pv 0) (pa_cons pe_int pa_nil)))) (pa_cons (pe_fn h__law_words pb__law_words (hr.mono (by decide)) hg rfl pass0 (pa_cons (pv 0) (pa_cons (pe_op op_add pe_int (pe_fn h__law_draw pb__law_draw (hr.mono (by decide)) hg rfl pass0 (pa_cons (pv 0) (pa_cons pe_int pa_nil)))) pa_nil))) pa_nil))) (k_gtup K rfl (pgs_cons (pg_name (i := 1) nd rfl (Or.inr rfl)) (pgs_cons (pg_name (i := 2) nd rfl (Or.inl rfl)) pgs_nil))))
      (pss_cons (ps_asg (pe_fn h__law_drawn pb__law_drawn (hr.mono (by decide)) hg rfl pass0 (pa_cons (pv 0) (pa_cons (pv 1) (pa_cons (pv 2) (pa_cons (pe_tup (pa_cons (pe_tup pa_nil) (pa_cons (pe_lst pa_nil) pa_nil))) (pa_cons pe_int pa_nil)))))) (k_gunl K rfl (pgs_cons (pg_name (i := 3) nd rfl (Or.inl rfl)) (pgs_cons (pg_name (i := 4) nd rfl (Or.inl rfl)) pgs_nil))))
      (pss_cons (ps_par (i := 5) (j := 6) rfl nd rfl rfl (by decide) rfl rfl (pa_cons (pe_fn h__law_deeds pb__law_deeds (hr.mono (by decide)) hg rfl pass0 (pa_cons (pv 1) (pa_cons (pv 3) pa_nil))) (pa_cons (pe_ix (k_ixL K) (pv 4) (pe_un un_neg pe_int) (fun _ _ => rfl)) pa_nil)) rfl)
      (pss_cons (ps_asg (pe_lc (own := [("_law_turn", 11)]) (g := gName 11) (tt := tYes) rfl nd (pi_range1 rfl fr.range_ (pa_cons pe_int pa_nil)) (blkOk_by (own := [("_law_turn", 11)]) (N := N__law_right) (sc := defScope s__law_right) (by decide +kernel)) (fun _ _ _ _ _ => (pg_name (i := 11) nd rfl (Or.inl rfl))) (fun _ _ _ _ _ => pts_nil) (fun _ _ _ _ _ => (k_mk K cl_Collector h_Collector___init__ bj_Collector___init___2 (hr.mono (by decide)) hg rfl pass0 (pa_cons (pv 1) pa_nil)))) (k_gunl K rfl (pgs_cons (pg_name (i := 7) nd rfl (Or.inl rfl)) (pgs_cons (pg_name (i := 8) nd rfl (Or.inl rfl)) (pgs_cons (pg_name (i := 9) nd rfl (Or.inl rfl)) (pgs_cons (pg_name (i := 10) nd rfl (Or.inl rfl)) pgs_nil))))))
      (pss_cons (ps_for PassesOwn.never rfl (k_iTup K (pv 5)) (pg_name (i := 12) nd rfl (Or.inl rfl))
        (pss_one (ps_expr (pe_mt cl_Collector h_Collector_do bj_Collector_do_2 (hr.mono (by decide)) hg pass0 (pv 7) (pa_cons (pv 12) pa_nil)))))
      (pss_cons (ps_expr (k_mtK K (n := 1) (js := [0, 1, 2]) cl_Collector h_Collector_do_all (by decide) kdm_Collector_do_all (hr.mono (by decide)) hg pass0 (pv 8) (pa_cons (pv 5) pa_nil) (fun _ vs h => match vs, h with | [_], _ => rfl)))
      (pss_cons (ps_expr (pe_fn h__law_in_groups pb__law_in_groups (hr.mono (by decide)) hg rfl pass0 (pa_cons (pv 9) (pa_cons (pv 0) (pa_cons (pv 2) (pa_cons (pv 3) (pa_cons (pv 4) pa_nil)))))))
      (pss_cons (ps_expr (pe_mt cl_Collector h_Collector_restart bj_Collector_restart_2 (hr.mono (by decide)) hg pass0 (pv 10) (pa_cons (pe_mt0 cl_Collector h_Collector_start bj_Collector_start_1 (hr.mono (by decide)) hg pass0 (pv 7)) pa_nil)))
      (pss_cons (ps_for PassesOwn.never rfl (k_iTup K (pe_mt0 cl_Collector h_Collector_entries bj_Collector_entries_1 (hr.mono (by decide)) hg pass0 (pv 7))) (pg_name (i := 13) nd rfl (Or.inl rfl))
        (pss_one (ps_if (pt_val (pe_fn h_is_summary pb_is_summary (hr.mono (by decide)) hg rfl pass0 (pa_cons (pv 13) pa_nil))) (pss_one (ps_expr (pe_mt cl_Collector h_Collector_merge bj_Collector_merge_2 (hr.mono (by decide)) hg pass0 (pv 10) (pa_cons (pv 13) pa_nil)))) (pss_one (ps_expr (pe_mt cl_Collector h_Collector_arrive bj_Collector_arrive_3 (hr.mono (by decide)) hg pass0 (pv 10) (pa_cons (pe_ix (k_ixT K) (pv 13) pe_int (fun _ _ => rfl)) (pa_cons (pe_ix (k_ixT K) (pv 13) pe_int (fun _ _ => rfl)) pa_nil))))))))
      (pss_cons (ps_par (i := 14) (j := 15) rfl nd rfl rfl (by decide) rfl rfl (pa_cons (pe_fn h__law_draw pb__law_draw (hr.mono (by decide)) hg rfl pass0 (pa_cons (pv 0) (pa_cons (pe_op op_add (pe_callB (s_len K h_Collector___len__ bj_Collector___len___1 (hr.mono (by decide)) hg pass0) rfl fr.len_ (by decide +kernel) (pa_cons (pv 7) pa_nil)) pe_int) pa_nil))) (pa_cons (pe_ix (k_ixL K) (pv 2) (pe_fn h__law_draw pb__law_draw (hr.mono (by decide)) hg rfl pass0 (pa_cons (pv 0) (pa_cons (pe_callB (k_len K) rfl fr.len_ (by decide +kernel) (pa_cons (pv 2) pa_nil)) pa_nil))) (fun _ _ => rfl)) pa_nil)) rfl)
      (pss_cons (ps_if (PW.pt (pw_or (pt_not (pt_val (pe_fn h__law_all_same pb__law_all_same (hr.mono (by decide)) hg rfl pass0 (pa_cons (pe_lst (pa_cons (pv 7) (pa_cons (pv 8) (pa_cons (pv 9) (pa_cons (pv 10) pa_nil))))) (pa_cons (pv 14) (pa_cons (pv 15) pa_nil)))))) (pw_or1 (pt_not (pt_val (pe_fn h__law_told_right pb__law_told_right (hr.mono (by decide)) hg rfl pass0 (pa_cons (pv 10) (pa_cons (pv 1) (pa_cons (pv 6) pa_nil))))))))) (pss_one (ps_ret pe_bl)) pss_nil)
      (pss_cons (ps_if (pt_cmpR (k_neL K (u66 hr)) (pe_lc (own := [("_law_box", 16)]) (g := gName 16) (tt := tYes) rfl nd (k_iList K (pe_lst (pa_cons (pv 7) (pa_cons (pv 8) (pa_cons (pv 9) pa_nil))))) (blkOk_by (own := [("_law_box", 16)]) (N := N__law_right) (sc := defScope s__law_right) (by decide +kernel)) (fun _ _ _ _ _ => (pg_name (i := 16) nd rfl (Or.inl rfl))) (fun _ _ _ _ _ => pts_nil) (fun _ _ _ _ _ => (pe_callB (k_reprU K h_Summary___repr__ bj_Summary___repr___1 (hr.mono (by decide)) hg hr.units) rfl fr.repr_ (by decide +kernel) (pa_cons (k_mt0 K cl_Collector h_Collector_history bj_Collector_history_1 (hr.mono (by decide)) hg pass0 (pv 16)) pa_nil)))) (pe_op op_rep (pe_lst (pa_cons (pe_callB (k_reprU K h_Summary___repr__ bj_Summary___repr___1 (hr.mono (by decide)) hg hr.units) rfl fr.repr_ (by decide +kernel) (pa_cons (pv 5) pa_nil)) pa_nil)) pe_int) (nomark _)) (pss_one (ps_ret pe_bl)) pss_nil)
      (pss_cons (ps_for PassesOwn.never rfl (k_iTup K (pv 5)) (pg_name (i := 12) nd rfl (Or.inl rfl))
        (pss_cons (ps_expr (pe_mt0 cl_Collector h_Collector_undo bj_Collector_undo_1 (hr.mono (by decide)) hg pass0 (pv 7)))
      (pss_one (ps_expr (pe_mt0 cl_Collector h_Collector_undo bj_Collector_undo_1 (hr.mono (by decide)) hg pass0 (pv 9))))))
      (pss_cons (ps_if (PW.pt (pw_or (pt_not (pt_val (pe_fn h__law_all_same pb__law_all_same (hr.mono (by decide)) hg rfl pass0 (pa_cons (pe_lst (pa_cons (pv 7) (pa_cons (pv 9) (pa_cons (pe_mk cl_Collector h_Collector___init__ bj_Collector___init___2 (hr.mono (by decide)) hg rfl pass0 (pa_cons (pv 1) pa_nil)) pa_nil)))) (pa_cons pe_int (pa_cons (pv 15) pa_nil)))))) (pw_or1 (pt_cmpR (k_neTE K (u66 hr)) (pe_mt0 cl_Collector h_Collector_history bj_Collector_history_1 (hr.mono (by decide)) hg pass0 (pv 7)) (pe_tup pa_nil) (nomark _))))) (pss_one (ps_ret pe_bl)) pss_nil)
      (pss_cons (ps_expr (k_mtK K (n := 1) (js := [0, 1, 2]) cl_Collector h_Collector_do_all (by decide) kdm_Collector_do_all (hr.mono (by decide)) hg pass0 (pv 9) (pa_cons (pv 5) pa_nil) (fun _ vs h => match vs, h with | [_], _ => rfl)))
      (pss_one (ps_ret (pe_and (pe_cmpR (s_eqA K h_Collector___eq__ bj_Collector___eq___2 (hr.mono (by decide)) hg pass0) (pv 9) (pv 8) (nomark _)) (pe_one (pe_cmpR op_eq (pe_callB (k_repr K hg hr.units) rfl fr.repr_ (by decide +kernel) (pa_cons (k_fld K (pe_mt0 cl_Collector h_Collector_current bj_Collector_current_1 (hr.mono (by decide)) hg pass0 (pv 9)) rfl) pa_nil)) (pe_callB (k_repr K hg hr.units) rfl fr.repr_ (by decide +kernel) (pa_cons (pe_fn h__law_now pb__law_now (hr.mono (by decide)) hg rfl pass0 (pa_cons (pv 1) (pa_cons (pv 6) pa_nil))) pa_nil)) (nomark _))))))))))))))))))))), ?_⟩
    try dsimp only [cxOf]
    have est : ∀ a0 : V, L2.start N__law_right [a0] = [some a0, none, none, none, none, none, none, none, none, none, none, none, none, none, none, none, none] := fun _ => rfl
    simp only [est]
    clear est
    tm_at "vp"
    refine ⟨p, 8, rfl, hp, by decide, by decide, fun wd H1 n0 n1 s1 => ?_⟩
    tm_at "vp"
    refine ⟨p, 6, rfl, s1 _ _ hp, by decide, by decide, fun n H2 n2 n3 s2 => ?_⟩
    have s02 := s1.trans s2
    tm_at "vp"
    refine ⟨p, _, rfl, s02 _ _ hp, by omega, by omega, fun a ws H3 ha s3 hws hw => ?_⟩
    have s03 := s02.trans s3
    have hwl := hw.len
    obtain ⟨wd, rfl⟩ := Int.eq_ofNat_of_zero_le n0
    tm_at "vp"
    have hws2 : WordsOk ws ws.length := ⟨rfl, hw.nd, hw.nam⟩
    have hwl1 : 1 ≤ ws.length := by omega
    have hwl2 : ws.length ≤ 6 := by omega
    have hp3 := s03 _ _ hp
    have hc1 : (1 : Int) ≤ 1 + ((wd : Nat) : Int) := by omega
    have hc8 : 1 + ((wd : Nat) : Int) ≤ 8 := by omega
    generalize (1 : Int) + ((wd : Nat) : Int) = c at hc1 hc8 ⊢
    clear hw hwl n1 n2 n3 s1 s2 s02 s3
    rename_i e0 he0
    have g0 := @upd_same H3 e0 (HO.tup [.int c, .ref a])
    have t0 := same_new he0 (u := HO.tup [.int c, .ref a])
    generalize upd H3 e0 (HO.tup [.int c, .ref a]) = G0 at *
    refine w_gtup (SqT.of g0) rfl ?_
    tm_at "vp"
    rename_i e1 he1 e2 he2 e3 he3
    have g1 := @upd_same G0 e1 (HO.tup [])
    have t1 := same_new he1 (u := HO.tup [])
    generalize upd G0 e1 (HO.tup []) = G1 at *
    have g2 := @upd_same G1 e2 (HO.lst [])
    have t2 := same_new he2 (u := HO.lst [])
    generalize upd G1 e2 (HO.lst []) = G2 at *
    have g3 := @upd_same G2 e3 (HO.tup [.ref e1, .ref e2])
    have t3 := same_new he3 (u := HO.tup [.ref e1, .ref e2])
    generalize upd G2 e3 (HO.tup [.ref e1, .ref e2]) = G3 at *
    have hv0 : SumV c [] := ⟨hc1, hc8, ⟨.nil, nofun, nofun⟩, by show (0 : Int) ≤ c; omega⟩
    have hs0 : StV c ([], []) := ⟨hv0, by decide, nofun⟩
    have hst0 : StL K G3 (.ref e3) ([], []) := ⟨e3, .ref e1, e2, [], rfl, SqT.of g3, .tup (SqT.of (t3 _ _ (t2 _ _ g1))) .nil, t3 _ _ g2, .nil⟩
    have s04 := s03.trans (t0.trans (t1.trans (t2.trans t3)))
    have hws4 : SqL K G3 a (ws.map V.str) := (t0.trans (t1.trans (t2.trans t3))).seq (SqL.of hws)
    clear g0 g1 g2 g3 t0 t1 t2 t3 he0 he1 he2 he3 hws hp3
    refine ⟨p, a, ws, c, .ref e3, ([], []), 10, rfl, s04 _ _ hp, hws4, hws2, hwl1, by omega, hc1, hc8, hst0, hs0, by decide, nofun, fun L LP LS ps ss acts H4 s4 gL gLP gLS hps hss hml hv hrw => ?_⟩
    refine w_gunl (SqL.of gL) rfl ?_
    simp only [List.set_cons_zero, List.set_cons_succ]
    tm_at "vp"
    refine ⟨c, .ref LP, acts, rfl, .lst (SqL.of gLP) hps, fun b hb => let ⟨n, _, h⟩ := acts_mem hv hb; ⟨n, h⟩, by omega, fun T xs H5 s5 hT hxs => ?_⟩
    have s05 := s04.trans (s4.trans s5)
    have env : EnvA K H5 p a LP LS T ws ps ss xs c ([], []) acts := ⟨s05 _ _ hp, (s4.trans s5).seq hws4, s5 _ _ gLP, dps_same s5 hps, s5 _ _ gLS, hss.imp fun _ _ h => h.same s5, hT, hxs⟩
    clear s4 s5 gL gLP gLS hps hss hT hxs hws4 hst0
    have hssl := env.ss.len
    rw [statesA_len] at hssl
    have hpsl := dps_len env.ps
    rw [List.length_map] at hpsl
    have hxl := env.xs.len
    obtain ⟨lv, hlv, hstS⟩ := env.ss.get' (statesA_last ([], []) acts)
    tm_at "vp"
    refine w_ixL (SqL.of env.ls) (v := lv) (at_end hssl hlv) ?_
    tm_at "vp"
    refine w_onR1 ⟨by decide, by decide⟩ ?_
    intro D hD
    simp only [List.set_cons_zero, List.set_cons_succ]
    refine lc_go walk_range (AccN K H5 c) hD (fun _ _ => trivial) ⟨[], rfl, rfl, .nil, nofun⟩ ?_ ?_
    · rintro i x G1 G2 acc hi sg hDa hal ⟨as, rfl, hasl, hnd, has⟩ ⟨rfl, rfl⟩
      refine w_gname ⟨rfl, ?_⟩
      refine w_yes (w_iteT ?_)
      tm_at "vp"
      intro b dx hb hdx hne
      refine ⟨b, dx, c, rfl, upd_same, hc1, hc8, fun G3 B R P sb ho => ⟨rfl, ?_⟩⟩
      have sB : SameB b G2 G3 := ((SameB.ofS (same_new hdx)).tr sameB_upd).tr sb
      have sn : Same G2 G3 := sB.sm hb
      have hDa3 := sn _ _ hDa
      refine lc_y (Acc := AccN K H5 c) hD (sg.trans sn) hDa3 hal (by omega) ⟨as ++ [b], by rw [List.map_append]; rfl, by rw [List.length_append, hasl]; rfl, ?_, ?_⟩
      · rw [List.nodup_append]
        refine ⟨hnd, List.nodup_cons.mpr ⟨nofun, .nil⟩, fun x hx y hy => ?_⟩
        cases List.mem_singleton.mp hy
        intro z
        subst z
        obtain ⟨⟨dx', B', R', P', ho'⟩, _⟩ := has x hx
        exact colO_some ho' hb
      · intro x hx
        rcases List.mem_append.mp hx with hx | hx
        · obtain ⟨⟨dx', B', R', P', ho'⟩, h0⟩ := has x hx
          exact ⟨⟨dx', B', R', P', colO_lst (ho'.same sn) hDa3⟩, h0⟩
        · cases List.mem_singleton.mp hx
          exact ⟨⟨dx, B, R, P, colO_lst ho hDa3⟩, sg.free hb⟩
    intro acc H6 s6 hacc hacl ⟨as, eacc, hasl, hnd, has⟩
    subst eacc
    obtain ⟨a1, a2, a3, a4, rfl⟩ : ∃ a1 a2 a3 a4, as = [a1, a2, a3, a4] := by
      match as, hasl with
      | [a1, a2, a3, a4], _ => exact ⟨a1, a2, a3, a4, rfl⟩
    obtain ⟨⟨dx1, B1, R1, P1, o1⟩, f1⟩ := has a1 (by simp)
    obtain ⟨⟨dx2, B2, R2, P2, o2⟩, f2⟩ := has a2 (by simp)
    obtain ⟨⟨dx3, B3, R3, P3, o3⟩, f3⟩ := has a3 (by simp)
    obtain ⟨⟨dx4, B4, R4, P4, o4⟩, f4⟩ := has a4 (by simp)
    simp only [List.nodup_cons, List.mem_cons, List.not_mem_nil, or_false, not_or] at hnd
    obtain ⟨⟨n12, n13, n14⟩, ⟨n23, n24⟩, n34, _⟩ := hnd
    refine w_gunl (SqL.of hacc) rfl ?_
    simp only [List.map_cons, List.map_nil]
    have env6 := env.same s6
    have s06 := s05.trans s6
    have f1 := s05.free f1
    have f2 := s05.free f2
    have f3 := s05.free f3
    have f4 := s05.free f4
    clear has hacc hacl hasl s05 s6 env hD
    tm_at "vp"
    have hT6 := env6.tup
    have hrl := runS_len acts ([], [])
    have hS := actsV_ok acts hs0 hv
    refine w_onT (SqT.of hT6) ?_
    refine for_go (walk_tup (xs := xs)) (fun i σ H' => ∃ (u12 : Option V) (B R P : V), σ = [some (.ref p), some (.int c), some (.ref a), some (.ref LP), some (.ref LS), some (.ref T), some lv, some (.ref a1), some (.ref a2), some (.ref a3), some (.ref a4), none, u12, none, none, none, none] ∧ SameB a1 H6 H' ∧ ColO K H' a1 c (runS ([], []) (acts.take i)) (histA ([], []) (acts.take i)) false 0 dx1 B R P) ⟨none, B1, R1, P1, rfl, fun _ _ _ h => h, by rw [List.take_zero]; exact o1⟩ (fun i σ H' _ ⟨_, _, _, _, _, sb, _⟩ => SqT.of (tup_c (o1.ch sb) hT6)) ?_ ?_
    rotate_left
    · rintro σ H7 ⟨u12, B1, R1, P1, rfl, sb7, o1'⟩
      have c67 := o1.ch sb7
      have env7 := env6.c c67
      have o2 := o2.beside (Ne.symm n12) sb7 c67
      have o3 := o3.beside (Ne.symm n13) sb7 c67
      have o4 := o4.beside (Ne.symm n14) sb7 c67
      have s07 := same_bn s06 sb7 f1
      rw [hxl, List.take_length] at o1'
      clear o1 env6 s06 sb7 c67 hT6
      dsimp only
      tm_at "vp"
      refine w_colM o2 (by decide +kernel) ?_
      tm_at "vp"
      refine ⟨a2, dx2, c, ([], []), [], 0, B2, R2, P2, T, xs, acts, rfl, o2, hs0, SqT.of env7.tup, env7.xs, hv, by decide, by simp; omega, fun v8 H8 B2' R2' P2' b8 o2' _ _ _ => ?_⟩
      have c78 := o2.ch b8
      have env8 := env7.c c78
      have o1 := o1'.beside n12 b8 c78
      have o3 := o3.beside (Ne.symm n23) b8 c78
      have o4 := o4.beside (Ne.symm n24) b8 c78
      have s08 := same_bn s07 b8 f2
      clear o1' o2 env7 s07 b8 c78
      tm_at "vp"
      refine ⟨a3, dx3, c, ([], []), [], 0, B3, R3, P3, p, a, LP, LS, ws, ps, ss, acts, rfl, o3, hs0, env8.pool, env8.wa, hws2, hwl1, by omega, SqL.of env8.lp, SqL.of env8.ls, env8.ps, env8.ss, hv, by simp; omega, by omega, by simp; omega, hrw, fun H9 B3' R3' P3' att3 b9 o3' => ?_⟩
      have c89 := o3.ch b9
      have env9 := env8.c c89
      have o1 := o1.beside n13 b9 c89
      have o2 := o2'.beside n23 b9 c89
      have o4 := o4.beside (Ne.symm n34) b9 c89
      have s09 := same_bn s08 b9 f3
      clear o2' o3 env8 s08 b9 c89
      tm_at "vp"
      refine w_colM o4 (by decide +kernel) ?_
      tm_at "vp"
      refine w_colM o1 (by decide +kernel) ?_
      tm_at "vp"
      refine ⟨a1, dx1, c, _, _, false, 0, B1, R1, P1, rfl, o1, ?_⟩
      tm_at "vp"
      refine ⟨a4, dx4, c, ([], []), [], 0, B4, R4, P4, B1, (runS ([], []) acts).1, rfl, o4, hs0, o1.beg, ⟨hS.1, hS.2.1⟩, by decide, by decide, fun v10 H10 B4' R4' P4' b10 o4' _ _ _ => ?_⟩
      have c90 := o4.ch b10
      have env10 := env9.c c90
      have o1 := o1.beside n14 b10 c90
      have o2 := o2.beside n24 b10 c90
      have o3 := o3'.beside n34 b10 c90
      have s010 := same_bn s09 b10 f4
      clear o3' o4 env9 s09 b10 c90
      rw [show stepA ([], []) (.start (runS ([], []) acts).1) = ((runS ([], []) acts).1, []) from rfl] at o4'
      generalize hSg : runS ([], []) acts = S at *
      tm_at "vp"
      refine w_colM o1 (by decide +kernel) ?_
      tm_at "vp"
      refine ⟨a1, dx1, c, _, _, false, 0, B1, R1, P1, rfl, o1, ?_⟩
      have hrows := o1.rows
      obtain ⟨T1, rs, rfl, hT1, hrs⟩ := hrows
      have hrsl := hrs.len
      have hSl : S.2.length ≤ 10 := by simp at hrl; omega
      refine w_onT hT1 ?_
      refine for_go (walk_tup (xs := rs)) (fun i σ H' => ∃ (u13 : Option V) (past : List (Act × StA)) (B R P : V), σ = [some (.ref p), some (.int c), some (.ref a), some (.ref LP), some (.ref LS), some (.ref T), some lv, some (.ref a1), some (.ref a2), some (.ref a3), some (.ref a4), none, u12, u13, none, none, none] ∧ SameB a4 H10 H' ∧ past.length = i + 1 ∧ ColO K H' a4 c (S.1, S.2.take i) past false 0 dx4 B R P) ⟨none, _, B4', R4', P4', rfl, fun _ _ _ h => h, rfl, by rw [List.take_zero]; exact o4'⟩ (fun i σ H' _ ⟨_, _, _, _, _, _, sb, _⟩ => sqt_c (o4'.ch sb) hT1) ?_ ?_
      rotate_left
      · rintro σ H11 ⟨u13, past4, B4, R4, P4, rfl, b11, hpl4, o4⟩
        rw [hrsl, List.take_length] at o4
        have c11 := o4'.ch b11
        have env11 := env10.c c11
        have o1 := o1.beside n14 b11 c11
        have o2 := o2.beside n24 b11 c11
        have o3 := o3.beside n34 b11 c11
        have s011 := same_bn s010 b11 f4
        have o4 : ColO K H11 a4 c S past4 false 0 dx4 B4 R4 P4 := o4
        clear o4' env10 s010 b11 c11 hT1 hrs
        dsimp only
        tm_at "vp"
        refine w_lenCol o1 ?_
        refine ⟨a1, dx1, c, _, _, false, 0, B1, .ref T1, P1, rfl, o1, ⟨_, rfl, by omega, by omega, ?_⟩⟩
        tm_at "vp"
        refine ⟨p, _, rfl, env11.pool, by omega, by omega, fun at0 H12 m0 m1 s12 => ?_⟩
        obtain ⟨j, rfl⟩ := Int.eq_ofNat_of_zero_le m0
        have hj : j ≤ S.2.length := by omega
        clear m0 m1
        tm_at "vp"
        refine w_lenL (s12.seq env11.wa) ?_
        rw [List.length_map]
        refine ⟨p, _, rfl, s12 _ _ env11.pool, by omega, by omega, fun wi0 H13 m0 m1 s13 => ?_⟩
        obtain ⟨ii, rfl⟩ := Int.eq_ofNat_of_zero_le m0
        have hii : ii < ws.length := by omega
        have s23 := s12.trans s13
        refine w_ixL (s23.seq env11.wa) (v := .str ws[ii]) (at_of' (j := ii) rfl (by rw [List.getElem?_map, List.getElem?_eq_getElem hii]; rfl)) ?_
        have hnam := hws2.nam _ (List.getElem_mem hii)
        generalize ws[ii] = wname at *
        have env13 := env11.same s23
        have o1 := o1.same s23
        have o2 := o2.same s23
        have o3 := o3.same s23
        have o4 := o4.same s23
        have s013 := s011.trans s23
        clear env11 s12 s13 s23 s011 m0 m1 hii
        tm_at "vp"
        have htab : (tabOf (runsR S.2)).length ≤ 12 := by
          have h1 := hrw.last
          rw [hSg] at h1
          have := tab_ws h1
          omega
        rename_i l hl
        have sl := same_new hl (u := HO.lst [.ref a1, .ref a2, .ref a3, .ref a4])
        have fl := @upd_same H13 l (HO.lst [.ref a1, .ref a2, .ref a3, .ref a4])
        generalize upd H13 l (HO.lst [.ref a1, .ref a2, .ref a3, .ref a4]) = H14 at *
        have hE : ∀ v ∈ [V.ref a1, .ref a2, .ref a3, .ref a4], ColE K H14 c S v := fun v hv => by
          simp only [List.mem_cons, List.not_mem_nil, or_false] at hv
          rcases hv with rfl | rfl | rfl | rfl
          · exact ⟨a1, _, _, _, _, _, _, _, rfl, o1.same sl⟩
          · exact ⟨a2, _, _, _, _, _, _, _, rfl, o2.same sl⟩
          · exact ⟨a3, _, _, _, _, _, _, _, rfl, o3.same sl⟩
          · exact ⟨a4, _, _, _, _, _, _, _, rfl, o4.same sl⟩
        refine ⟨l, _, c, S, j, wname, rfl, fl, by simp, by simp, hE, hS, by omega, htab, hj, hnam, fun H15 s15 => ?_⟩
        tm_at "vp"
        have s35 := sl.trans s15
        have hstS' : StL K H15 lv S := by
          obtain ⟨r, er, h⟩ := (env13.same s35).ss.get hlv
          rw [statesA_last, hSg] at er
          cases er
          exact h
        refine ⟨a4, dx4, c, S, past4, false, 0, B4, R4, P4, lv, rfl, o4.same s35, hS, by omega, hstS'.dp, htab, fun H16 s16 => ?_⟩
        have s36 := s35.trans s16
        have env16 := env13.same s36
        have o1 := o1.same s36
        have o2 := o2.same s36
        have o3 := o3.same s36
        have s016 := s013.trans s36
        clear env13 s36 s35 s15 s16 sl fl hE hl o4 hstS' hj s013 hpl4
        tm_at "vp"
        rename_i l3 hl3
        have s17 := same_new hl3 (u := HO.lst [.ref a1, .ref a2, .ref a3])
        have f17 := @upd_same H16 l3 (HO.lst [.ref a1, .ref a2, .ref a3])
        generalize upd H16 l3 (HO.lst [.ref a1, .ref a2, .ref a3]) = H17 at *
        have hE : ∀ v ∈ [V.ref a1, .ref a2, .ref a3], ∃ b dx past att B R P, v = .ref b ∧ ColO K H17 b c S past false att dx B R P ∧ past.map (·.1) = acts := fun v hv => by
          simp only [List.mem_cons, List.not_mem_nil, or_false] at hv
          rcases hv with rfl | rfl | rfl
          · exact ⟨a1, _, _, _, _, _, _, rfl, o1.same s17, histA_acts _ _⟩
          · exact ⟨a2, _, _, _, _, _, _, rfl, o2.same s17, by rw [List.nil_append]; exact histA_acts _ _⟩
          · exact ⟨a3, _, _, _, _, _, _, rfl, o3.same s17, by rw [List.nil_append]; exact histA_acts _ _⟩
        have hav : ∀ b ∈ acts, ∃ n, n ≤ 1000 ∧ ActV c n b := fun b hb => let ⟨n, h1, h2⟩ := acts_mem hv hb; ⟨n, by omega, h2⟩
        have hown : ∀ G v qs, SumO K G v c qs → SumV c qs → BagS qs → OwnR K "Summary" (sp_Summary___repr__ K) [0] G v (rText c qs) := fun G v qs ho hv hb => by
          obtain ⟨na, nx, bv, rfl, h1, h2⟩ := ho
          exact ⟨na, nx, _, rfl, h1, fun H0 s0 => ⟨.ref na, c, qs, rfl, sum_x s0 ⟨na, nx, bv, rfl, h1, h2⟩, hv, hb, fun H'' s' => ⟨rfl, s'⟩⟩⟩
        generalize htx : tupleText (acts.map (deedT c)) = tx
        refine w_onL (SqL.of f17) ?_
        intro D2 hD2
        refine lc_map (walk_list (xs := [V.ref a1, .ref a2, .ref a3])) (by simp) (fun i y => y = .str tx) hD2 (fun _ s => s.seq (SqL.of f17)) ?_ ?_ mono_gname
        · rintro i2 y2 G1 G2 hi2 sg ⟨rfl, hy2⟩ Qy hq
          obtain ⟨b, dx, past, att, B, R, P, rfl, ho, hpa⟩ := hE y2 (List.mem_of_getElem? hy2)
          have ho := ho.same sg
          have hpal : past.length = acts.length := by rw [← hpa, List.length_map]
          refine w_gname ⟨rfl, ?_⟩
          tm_at "vp"
          refine w_colM ho (by decide +kernel) ?_
          tm_at "vp"
          refine ⟨b, dx, c, S, past, false, att, B, R, P, rfl, ho, by omega, fun TH zs G3 t3 hTH hzs => ?_⟩
          rw [hpa] at hzs
          obtain ⟨d1, hd1, hsw1, hlen1⟩ := past_sw (hown G3) hTH hzs hav (by omega)
          rw [htx] at hsw1 hlen1
          exact w_reprUo hsw1 hd1 (.inr (SqT.of hTH)) hlen1 fun G4 t4 => hq _ _ (t3.trans t4) rfl
        intro acc H18 s18 _ hacc hal hf
        have eacc : acc = [.str tx, .str tx, .str tx] := by
          match acc, hal, hf with
          | [y1, y2, y3], _, hf => rw [hf 0 y1 rfl, hf 1 y2 rfl, hf 2 y3 rfl]
        subst eacc
        have env18 := env16.same (s17.trans s18)
        tm_at "vp"
        obtain ⟨d1, hd1, hsw1, hlen1⟩ := past_sw (hown H18) env18.tup env18.xs hav (by omega)
        rw [htx] at hsw1 hlen1
        refine w_reprUo hsw1 hd1 (.inr (SqT.of env18.tup)) hlen1 fun H19 s19 => ?_
        tm_at "vp"
        rename_i l4 hl4
        have s20 := same_new hl4 (u := HO.lst [.str tx])
        have f20 := @upd_same H19 l4 (HO.lst [.str tx])
        generalize upd H19 l4 (HO.lst [.str tx]) = H20 at *
        refine w_rep f20 (by decide) (by show 1 * 3 ≤ 100000; decide) fun l5 hl5 => ?_
        rw [show (List.replicate (Int.toNat 3) [V.str tx]).flatten = [.str tx, .str tx, .str tx] from rfl]
        have s21 := same_new hl5 (u := HO.lst [V.str tx, .str tx, .str tx])
        have f21 := @upd_same H20 l5 (HO.lst [V.str tx, .str tx, .str tx])
        generalize upd H20 l5 (HO.lst [V.str tx, .str tx, .str tx]) = H21 at *
        have s1821 := s19.trans (s20.trans s21)
        refine w_neF (SqL.of (s1821 _ _ hacc)) (SqL.of f21) rfl rfl ?_
        tm_at "vp"
        have s1621 := s17.trans (s18.trans s1821)
        have env21 := env16.same s1621
        have o1 := o1.same s1621
        have o2 := o2.same s1621
        have o3 := o3.same s1621
        rw [List.nil_append] at o3
        have s021 := s016.trans s1621
        clear env16 env18 s17 f17 hE hD2 s18 hacc hal hf hsw1 hlen1 s19 hl4 s20 f20 hl5 s21 f21 s1821 s1621 s016 hl3
        tm_at "vp"
        have hxl2 := env21.xs.len
        refine w_onT (SqT.of env21.tup) ?_
        refine for_go (walk_tup (xs := xs)) (fun i σ H' => ∃ (u12 : Option V) (B1 R1 P1 B3 R3 P3 : V), σ = [some (.ref p), some (.int c), some (.ref a), some (.ref LP), some (.ref LS), some (.ref T), some lv, some (.ref a1), some (.ref a2), some (.ref a3), some (.ref a4), none, u12, u13, some (.int (j : Nat)), some (.str wname), none] ∧ EnvA K H' p a LP LS T ws ps ss xs c ([], []) acts ∧ Same H H' ∧ ColO K H' a1 c (runS ([], []) (acts.take (acts.length - i))) (histA ([], []) (acts.take (acts.length - i))) false 0 dx1 B1 R1 P1 ∧ ColO K H' a3 c (runS ([], []) (acts.take (acts.length - i))) (histA ([], []) (acts.take (acts.length - i))) false att3 dx3 B3 R3 P3 ∧ ColO K H' a2 c S ([] ++ histA ([], []) acts) false (0 + 1) dx2 B2' R2' P2') ⟨_, B1, _, P1, B3', R3', P3', rfl, env21, s021, by rw [Nat.sub_zero, List.take_length, hSg]; exact o1, by rw [Nat.sub_zero, List.take_length, hSg]; exact o3, o2⟩ (fun i σ H' _ ⟨_, _, _, _, _, _, _, _, e, _⟩ => SqT.of e.tup) ?_ ?_
        rotate_left
        · rintro σ H22 ⟨u12, B1, R1, P1, B3, R3, P3, rfl, env22, s022, o1, o3, o2⟩
          rw [hxl2, Nat.sub_self, List.take_zero] at o1 o3
          have o1 : ColO K H22 a1 c ([], []) [] false 0 dx1 B1 R1 P1 := o1
          have o3 : ColO K H22 a3 c ([], []) [] false att3 dx3 B3 R3 P3 := o3
          clear env21 s021 hxl2
          dsimp only
          tm_at "vp"
          intro b dx hb hdx hne
          refine ⟨b, dx, c, rfl, upd_same, hc1, hc8, fun H23 B5 R5 P5 sb o5 => ⟨rfl, ?_⟩⟩
          have sB : SameB b H22 H23 := ((SameB.ofS (same_new hdx)).tr sameB_upd).tr sb
          have s23 : Same H22 H23 := sB.sm hb
          clear sB sb
          tm_at "vp"
          rename_i l6 hl6
          have s24 := same_new hl6 (u := HO.lst [.ref a1, .ref a3, .ref b])
          have f24 := @upd_same H23 l6 (HO.lst [.ref a1, .ref a3, .ref b])
          generalize upd H23 l6 (HO.lst [.ref a1, .ref a3, .ref b]) = H24 at *
          have s2224 := s23.trans s24
          have hE : ∀ v ∈ [V.ref a1, .ref a3, .ref b], ColE K H24 c ([], []) v := fun v hv => by
            simp only [List.mem_cons, List.not_mem_nil, or_false] at hv
            rcases hv with rfl | rfl | rfl
            · exact ⟨a1, _, _, _, _, _, _, _, rfl, o1.same s2224⟩
            · exact ⟨a3, _, _, _, _, _, _, _, rfl, o3.same s2224⟩
            · exact ⟨b, _, _, _, _, _, _, _, rfl, o5.same s24⟩
          refine ⟨l6, _, c, ([], []), 0, wname, rfl, f24, by simp, by simp, hE, hs0, by simp, by show 0 ≤ 12; decide, Nat.zero_le _, hnam, fun H25 s25 => ?_⟩
          have s2225 := s2224.trans s25
          have o1 := o1.same s2225
          tm_at "vp"
          refine w_colM o1 (by decide +kernel) ?_
          tm_at "vp"
          refine ⟨a1, dx1, c, ([], []), [], false, 0, B1, R1, P1, rfl, o1, by decide, fun TH zs H26 s26 hTH hzs => ?_⟩
          cases hzs
          tm_at "vp"
          rename_i e7 he7
          have s27 := same_new he7 (u := HO.tup [])
          refine w_neTE (SqT.of (s27 _ _ hTH)) (SqT.of upd_same) ?_
          generalize upd H26 e7 (HO.tup []) = H27 at *
          have s2227 := s2225.trans (s26.trans s27)
          have o3 := o3.same s2227
          have o2 := o2.same s2227
          have env27 := env22.same s2227
          have s027 := s022.trans s2227
          clear o1 o5 hE f24 env22 s022 s2227 s26 s27 hTH s25 s24 s23 s2224 s2225 hb hdx hne hl6 he7
          tm_at "vp"
          rw [if_neg (show ¬ (!([] : List V).isEmpty) = true by decide)]
          tm_at "vp"
          refine w_colM o3 (by decide +kernel) ?_
          tm_at "vp"
          refine ⟨a3, dx3, c, ([], []), [], att3, B3, R3, P3, T, xs, acts, rfl, o3, hs0, SqT.of env27.tup, env27.xs, hv, by decide, by simp; omega, fun v8 H28 B6 R6 P6 b8 o3' _ _ _ => ?_⟩
          have c8 := o3.ch b8
          have env28 := env27.c c8
          have o2 := o2.beside n23 b8 c8
          have s028 := same_bn s027 b8 f3
          rw [hSg] at o3'
          tm_at "vp"
          refine w_cmpCol cl_Collector o3' o2 ?_
          refine ⟨a3, a2, dx3, dx2, c, S, S, _, _, false, false, _, _, _, _, _, _, _, _, rfl, o3', o2, hS, hS, .inl ⟨rfl, fun H29 s29 => ⟨_, rfl, ?_⟩⟩⟩
          tm_at "vp"
          rw [if_pos (by decide)]
          have o3 := o3'.same s29
          tm_at "vp"
          refine w_colM o3 (by decide +kernel) ?_
          tm_at "vp"
          refine ⟨a3, dx3, c, S, _, false, _, B6, R6, P6, rfl, o3, hS, by omega, fun v9 H30 s30 hv9 hS9 hB9 => ?_⟩
          have hnb := bag_s32 hS9 hB9
          have hnl := hS9.len
          refine w_sumCnt cl_Summary hv9 fun bd hbd => ?_
          tm_at "vp"
          have shw := bag_shows hnb (by have := hS9.c8; omega)
          refine w_repr hbd shw ?_
          tm_at "vp"
          have s2830 := s29.trans s30
          have hstS' : StL K H30 lv S := by
            obtain ⟨r, er, h⟩ := (env28.same s2830).ss.get hlv
            rw [statesA_last, hSg] at er
            cases er
            exact h
          refine ⟨c, lv, S, rfl, hstS'.dp, hS, by omega, fun nv H31 s31 hnv _ _ => ?_⟩
          tm_at "vp"
          refine w_repr hnv shw ?_
          tm_at "vp"
          rw [decide_eq_true rfl]
          exact k _ (s028.trans (s2830.trans s31))
        rintro i y σ Ha Hb hi ⟨u12, B1, R1, P1, B3, R3, P3, rfl, env22, s022, o1, o3, o2⟩ ⟨rfl, hy⟩
        obtain ⟨n, hn⟩ : ∃ n, acts.length - i = n + 1 := ⟨acts.length - i - 1, by omega⟩
        obtain ⟨act, ea, eh⟩ := hist_last (s := ([], [])) (acts := acts) (n := n) (by omega)
        rw [hn, eh] at o1 o3
        have hsv5 := actsV_ok _ hs0 (actsV_take n hv)
        have hln5 := runS_len (acts.take n) ([], [])
        have hnil : (([], []) : StA).2.length = 0 := rfl
        rw [List.length_take, hnil] at hln5
        have hpl5 : (histA ([], []) (acts.take n)).length ≤ 5000 := by rw [histA_len, List.length_take]; omega
        simp only [List.set_cons_zero, List.set_cons_succ]
        tm_at "vp"
        refine w_colM o1 (by decide +kernel) ?_
        tm_at "vp"
        refine ⟨a1, dx1, c, _, _, act, _, 0, B1, R1, P1, rfl, o1, hsv5, by omega, hpl5, fun v6 H6 B6 R6 P6 b6 o1' _ _ _ => ?_⟩
        have c6 := o1.ch b6
        have o3 := o3.beside (Ne.symm n13) b6 c6
        have o2 := o2.beside (Ne.symm n12) b6 c6
        have env6 := env22.c c6
        have s06 := same_bn s022 b6 f1
        tm_at "vp"
        refine w_colM o3 (by decide +kernel) ?_
        tm_at "vp"
        refine ⟨a3, dx3, c, _, _, act, _, att3, B3, R3, P3, rfl, o3, hsv5, by omega, hpl5, fun v7 H7 B7 R7 P7 b7 o3' _ _ _ => ?_⟩
        have c7 := o3.ch b7
        have o1 := o1'.beside n13 b7 c7
        have o2 := o2.beside n23 b7 c7
        tm_at "vp"
        refine ⟨_, B6, R6, P6, B7, R7, P7, rfl, env6.c c7, same_bn s06 b7 f3, ?_, ?_, o2⟩
        · rw [show acts.length - (i + 1) = n by omega]
          exact o1
        · rw [show acts.length - (i + 1) = n by omega]
          exact o3'
      rintro i y σ Ha Hb hi ⟨u13, past4, B4, R4, P4, rfl, sb, hpl4, o4⟩ ⟨rfl, hy⟩
      obtain ⟨row, er, hrow⟩ := hrs.get hy
      have hrV := hS.2.2 row (List.mem_of_getElem? er)
      have hrow := rowO_c (o4'.ch sb) hrow
      have hsv4 : StV c (S.1, S.2.take i) := ⟨hS.1, hS.2.1, fun r hr => hS.2.2 r (List.mem_of_mem_take hr)⟩
      have hl4 : (S.2.take i).length ≤ 99 := by rw [List.length_take]; omega
      simp only [List.set_cons_zero, List.set_cons_succ]
      tm_at "vp"
      cases row with
      | run n m =>
        obtain ⟨PP, rfl, hPP⟩ := pair_inv hrow
        refine ⟨.ref PP, false, rfl, .inr ⟨rfl, _, hrow⟩, ?_⟩
        tm_at "vp"
        refine w_colM o4 (by decide +kernel) ?_
        tm_at "vp"
        refine w_ixT hPP (v := .str n) (at_of' (j := 0) rfl rfl) ?_
        tm_at "vp"
        refine w_ixT hPP (v := .int m) (at_of' (j := 1) rfl rfl) ?_
        tm_at "vp"
        refine ⟨a4, dx4, c, _, _, 0, B4, R4, P4, n, m, rfl, o4, hsv4, hrV, hl4, by omega, fun v' H' B' R' P' sb' o' _ _ _ => ?_⟩
        tm_at "vp"
        refine ⟨_, past4 ++ [(.arrive n m, (S.1, S.2.take i))], B', R', P', rfl, sb.trans sb', by rw [List.length_append, hpl4]; rfl, ?_⟩
        rw [take_snoc er]
        exact o'
      | sum qs =>
        refine ⟨y, true, rfl, .inl ⟨rfl, c, qs, hrow⟩, ?_⟩
        tm_at "vp"
        refine w_colM o4 (by decide +kernel) ?_
        tm_at "vp"
        refine ⟨a4, dx4, c, _, _, 0, B4, R4, P4, y, qs, rfl, o4, hsv4, hrow, hrV, hl4, by omega, fun v' H' B' R' P' sb' o' _ _ _ => ?_⟩
        tm_at "vp"
        refine ⟨_, past4 ++ [(.merge qs, (S.1, S.2.take i))], B', R', P', rfl, sb.trans sb', by rw [List.length_append, hpl4]; rfl, ?_⟩
        rw [take_snoc er]
        exact o'
    rintro i y σ Ha Hb hi ⟨u12, B1', R1', P1', rfl, sb, o1'⟩ ⟨rfl, hy⟩
    obtain ⟨act, ea, hact⟩ := (env6.c (o1.ch sb)).xs.get hy
    obtain ⟨v1, v2⟩ := actsV_at hv ea
    have hsv := actsV_ok _ hs0 (actsV_take i hv)
    simp only [List.set_cons_zero, List.set_cons_succ]
    tm_at "vp"
    refine w_colM o1' (by decide +kernel) ?_
    tm_at "vp"
    refine ⟨a1, dx1, c, _, _, false, 0, B1', R1', P1', y, act, rfl, o1', rfl, hsv, hact, v1, v2, by rw [histA_len, List.length_take]; omega, fun v' H' B' R' P' sb' o1'' _ _ _ => ?_⟩
    tm_at "vp"
    refine ⟨_, B', R', P', rfl, sb.trans sb', ?_⟩
    rw [take_snoc ea, runS_snoc, histA_snoc]
    exact o1''
theorem ok_law {P : Program} {w : World} {K : PySem.W.Frag} {mg : Str → Option Value} {base : Heap} (fr : Fre mg) (D : Dfd K mg "law" s_law)
    (h__law_right : Has P w K mg base CX0 14 "_law_right" s__law_right ["_law_pool_here"] (sp__law_right K))
    (h__law_pool : Has P w K mg base CX0 1 "_law_pool" s__law_pool ["_law_cell_here"] (sp__law_pool K))
    (h__law_cell : Has P w K mg base CX0 1 "_law_cell" s__law_cell ["_law_script", "_law_k"] (sp__law_cell K)) : Has P w K mg base CX0 15 "law" s_law ["_law_script"] (sp_law K) := by
  refine D.has sc_law (fun vs H Q E h => ?_) (fun cdv A outer s H vs Q E hr hg h => ?_)
  · obtain ⟨a, ns, rfl, _⟩ := h; rfl
  · obtain ⟨a, ns, rfl, hs, hn, k⟩ := h
    have nd := sc_law.nd
    refine ⟨_, PSs.nox (pss_one (ps_ret (pe_callB (k_all K rfl) rfl fr.all_ (by decide +kernel) (pa_cons (pe_lc (own := [("_law_k", 1)]) (g := gName 1) (tt := tYes) rfl nd (pi_range1 rfl fr.range_ (pa_cons (pe_callB (c_max2 rfl) rfl fr.max_ (by decide +kernel) (pa_cons pe_int (pa_cons (pe_callB (c_min2 rfl) rfl fr.min_ (by decide +kernel) (pa_cons (pe_callB (k_len K) rfl fr.len_ (by decide +kernel) (pa_cons (pv 0) pa_nil)) (pa_cons pe_int pa_nil))) pa_nil))) pa_nil)) (blkOk_by (own := [("_law_k", 1)]) (N := N_law) (sc := defScope s_law) (by decide +kernel)) (fun _ _ _ _ _ => (pg_name (i := 1) nd rfl (Or.inl rfl))) (fun _ _ _ _ _ => pts_nil) (fun _ _ _ _ _ => (pe_fn h__law_right pb__law_right (hr.mono (by decide)) hg rfl pass0 (pa_cons (pe_fn h__law_pool pb__law_pool (hr.mono (by decide)) hg rfl pass0 (pa_cons (pe_fn h__law_cell pb__law_cell (hr.mono (by decide)) hg rfl pass0 (pa_cons (pv 0) (pa_cons (pv 1) pa_nil))) pa_nil)) pa_nil)))) pa_nil)))), ?_⟩
    try dsimp only [cxOf]
    have s05 : Same H H := Same.refl _
    tm_at "wp"
    refine w_lenL (s05.seq hs) ?_
    tm_at "wp"
    rw [List.length_map]
    refine w_onR1 ⟨by split <;> split <;> omega, by split <;> split <;> omega⟩ ?_
    intro D1 hD1
    refine lc_map walk_range (n := _) (by split <;> split <;> omega) (fun i y => y = .bl true) hD1 (fun _ _ => trivial) ?_ ?_ mono_gname
    · rintro i y H6 H7 hi s6 ⟨rfl, rfl⟩ Qy hq
      have s06 := s05.trans s6
      refine w_gname ⟨rfl, ?_⟩
      tm_at "wp"
      refine ⟨a, ns, _, rfl, s06.seq hs, by omega, by omega, by revert hi; split <;> split <;> omega, fun n H8 s8 => ?_⟩
      tm_at "wp"
      refine ⟨n, rfl, fun p H9 hp s9 hpp => ?_⟩
      tm_at "wp"
      refine ⟨p, rfl, hpp, fun H10 s10 => ?_⟩
      exact hq _ _ ((s8.trans s9).trans s10) rfl
    · intro acc2 H6 s6 _ ha2 hl2 hf2
      have e : acc2 = (List.replicate acc2.length true).map V.bl := by
        refine List.ext_getElem? fun i => ?_
        cases z : acc2[i]? with
        | none => rw [List.getElem?_eq_none (by simpa using List.getElem?_eq_none_iff.mp z)]
        | some y =>
          rw [hf2 i y z]
          obtain ⟨h, _⟩ := List.getElem?_eq_some_iff.mp z
          simp [h]
      rw [e] at ha2
      tm_at "wp"
      refine w_all (SqL.of ha2) ?_
      have e2 : (List.replicate acc2.length true).all id = true := by simp
      rw [e2]
      exact k _
theorem facts {P : Program} {w : World} {K : PySem.W.Frag} {h : Heap} {mg : Str → Option Value} {f : Addr} (X : K.In h) (G : h.Ns mainGlobals mg) (hfa : mg ("law" : Str) = some (.ref f)) (c : He.SaysD fa fn K) (cx : (ex.all fun e => e K) = true) (ct : He.SaysT fa fn gts w K) :
    ∃ fd : FuncData, (∀ (s : Shared) (v : Value), BindsTo s fd ⟨[v], []⟩ [("_law_script", v)]) ∧ ∀ base : Heap, FnG P w K mg base CX0 15 f fd ["_law_script"] (sp_law K) := by
  have fr : Fre mg := ⟨He.free_ok X G (c.fact 72 (f := .free "len") rfl), He.free_ok X G (c.fact 73 (f := .free "isinstance") rfl), He.free_ok X G (c.fact 74 (f := .free "range") rfl), He.free_ok X G (c.fact 75 (f := .free "enumerate") rfl), He.free_ok X G (c.fact 76 (f := .free "zip") rfl), He.free_ok X G (c.fact 77 (f := .free "reversed") rfl), He.free_ok X G (c.fact 78 (f := .free "int") rfl), He.free_ok X G (c.fact 79 (f := .free "str") rfl), He.free_ok X G (c.fact 80 (f := .free "bool") rfl), He.free_ok X G (c.fact 81 (f := .free "tuple") rfl), He.free_ok X G (c.fact 82 (f := .free "list") rfl), He.free_ok X G (c.fact 83 (f := .free "dict") rfl), He.free_ok X G (c.fact 84 (f := .free "bytes") rfl), He.free_ok X G (c.fact 85 (f := .free "set") rfl), He.free_ok X G (c.fact 86 (f := .free "sum") rfl), He.free_ok X G (c.fact 87 (f := .free "all") rfl), He.free_ok X G (c.fact 88 (f := .free "any") rfl), He.free_ok X G (c.fact 89 (f := .free "abs") rfl), He.free_ok X G (c.fact 90 (f := .free "min") rfl), He.free_ok X G (c.fact 91 (f := .free "max") rfl), He.free_ok X G (c.fact 92 (f := .free "sorted") rfl), He.free_ok X G (c.fact 93 (f := .free "repr") rfl), He.free_ok X G (c.fact 94 (f := .free "divmod") rfl), He.free_ok X G (c.fact 95 (f := .free "type") rfl), He.free_ok X G (c.fact 96 (f := .free "map") rfl), He.free_ok X G (c.fact 97 (f := .free "iter") rfl), He.free_ok X G (c.fact 98 (f := .free "next") rfl)⟩
  have c_MAX_CAPACITY : ∃ t, mg "MAX_CAPACITY" = some (.int 8 t) := He.int_ok X G (c.fact 99 (f := .int "MAX_CAPACITY" 8) rfl)
  have c_LETTERS : ∃ t, mg "LETTERS" = some (.str "abcdefghijklmnopqrstuvwxyz" t) := He.str_ok X G (c.fact 100 (f := .str "LETTERS" "abcdefghijklmnopqrstuvwxyz") rfl)
  have c_MAX_ACTIONS : ∃ t, mg "MAX_ACTIONS" = some (.int 100 t) := He.int_ok X G (c.fact 101 (f := .int "MAX_ACTIONS" 100) rfl)
  have c_MAX_NAMES : ∃ t, mg "MAX_NAMES" = some (.int 12 t) := He.int_ok X G (c.fact 102 (f := .int "MAX_NAMES" 12) rfl)
  have cl_Summary : ClsF K mg "Summary" ["capacity", "counts", "__bool__"] := clsB_ok X G (ex_at cx 0 rfl)
  have et_Summary___init___0 : ∀ H : Hp, SqT K H (dflA "Summary" "__init__" 0 K) [] := fun H => etupB_ok (ex_at cx 1 rfl) H
  have cl_Collector : ClsF K mg "Collector" ["capacity", "begin", "rows", "past", "busy", "attempts", "__bool__"] := clsB_ok X G (ex_at cx 2 rfl)
  have kx_Collector_Summary : PySem.W.kitOne K (.ref (He.ga K "Collector")) (.ref (He.ga K "Summary")) = some false := of_decide_eq_true (ex_at cx 3 rfl)
  have kx_Summary_Collector : PySem.W.kitOne K (.ref (He.ga K "Summary")) (.ref (He.ga K "Collector")) = some false := of_decide_eq_true (ex_at cx 4 rfl)
  have gd_ACTION_SIZES : GDct K w mg "ACTION_SIZES" [("arrive", .int 3), ("merge", .int 2), ("insert", .int 4), ("remove", .int 2), ("start", .int 2)] := ⟨He.glo_ok X G (c.fact 103 (f := .glo "ACTION_SIZES") rfl), saysT_dic ct 0 rfl, ex_at cx 5 rfl⟩
  have D_is_whole : Dfd K mg "is_whole" s_is_whole := ⟨c.def_ 0 (d := d_is_whole) rfl, He.glo_ok X G (c.fact 0 (f := .glo "is_whole") rfl)⟩
  have D_is_from : Dfd K mg "is_from" s_is_from := ⟨c.def_ 1 (d := d_is_from) rfl, He.glo_ok X G (c.fact 1 (f := .glo "is_from") rfl)⟩
  have D_is_between : Dfd K mg "is_between" s_is_between := ⟨c.def_ 2 (d := d_is_between) rfl, He.glo_ok X G (c.fact 2 (f := .glo "is_between") rfl)⟩
  have D_is_capacity : Dfd K mg "is_capacity" s_is_capacity := ⟨c.def_ 3 (d := d_is_capacity) rfl, He.glo_ok X G (c.fact 3 (f := .glo "is_capacity") rfl)⟩
  have D_is_name : Dfd K mg "is_name" s_is_name := ⟨c.def_ 4 (d := d_is_name) rfl, He.glo_ok X G (c.fact 4 (f := .glo "is_name") rfl)⟩
  have D_is_run : Dfd K mg "is_run" s_is_run := ⟨c.def_ 5 (d := d_is_run) rfl, He.glo_ok X G (c.fact 5 (f := .glo "is_run") rfl)⟩
  have D_first_invalid : Dfd K mg "first_invalid" s_first_invalid := ⟨c.def_ 6 (d := d_first_invalid) rfl, He.glo_ok X G (c.fact 6 (f := .glo "first_invalid") rfl)⟩
  have D_check_capacity : Dfd K mg "check_capacity" s_check_capacity := ⟨c.def_ 7 (d := d_check_capacity) rfl, He.glo_ok X G (c.fact 7 (f := .glo "check_capacity") rfl)⟩
  have D_check_name : Dfd K mg "check_name" s_check_name := ⟨c.def_ 8 (d := d_check_name) rfl, He.glo_ok X G (c.fact 8 (f := .glo "check_name") rfl)⟩
  have D_table_of : Dfd K mg "table_of" s_table_of := ⟨c.def_ 9 (d := d_table_of) rfl, He.glo_ok X G (c.fact 9 (f := .glo "table_of") rfl)⟩
  have D_counts_of_table : Dfd K mg "counts_of_table" s_counts_of_table := ⟨c.def_ 10 (d := d_counts_of_table) rfl, He.glo_ok X G (c.fact 10 (f := .glo "counts_of_table") rfl)⟩
  have D_counts_text : Dfd K mg "counts_text" s_counts_text := ⟨c.def_ 11 (d := d_counts_text) rfl, He.glo_ok X G (c.fact 11 (f := .glo "counts_text") rfl)⟩
  have D_Summary___init__ : DfdM K "Summary" "__init__" "Summary.__init__" s_Summary___init__ [.ref (dflA "Summary" "__init__" 0 K)] := ⟨c.def_ 12 (d := d_Summary___init__) rfl, He.meth_ok (c.fact 12 (f := .meth "Summary" "__init__") rfl)⟩
  have D_Summary___eq__ : DfdM K "Summary" "__eq__" "Summary.__eq__" s_Summary___eq__ [] := ⟨c.def_ 13 (d := d_Summary___eq__) rfl, He.meth_ok (c.fact 13 (f := .meth "Summary" "__eq__") rfl)⟩
  have D_Summary___str__ : DfdM K "Summary" "__str__" "Summary.__str__" s_Summary___str__ [] := ⟨c.def_ 14 (d := d_Summary___str__) rfl, He.meth_ok (c.fact 14 (f := .meth "Summary" "__str__") rfl)⟩
  have D_Summary___repr__ : DfdM K "Summary" "__repr__" "Summary.__repr__" s_Summary___repr__ [] := ⟨c.def_ 15 (d := d_Summary___repr__) rfl, He.meth_ok (c.fact 15 (f := .meth "Summary" "__repr__") rfl)⟩
  have D_Summary_arrive : DfdM K "Summary" "arrive" "Summary.arrive" s_Summary_arrive [.int 1] := ⟨c.def_ 16 (d := d_Summary_arrive) rfl, He.meth_ok (c.fact 16 (f := .meth "Summary" "arrive") rfl)⟩
  have D_Summary_merged : DfdM K "Summary" "merged" "Summary.merged" s_Summary_merged [] := ⟨c.def_ 17 (d := d_Summary_merged) rfl, He.meth_ok (c.fact 17 (f := .meth "Summary" "merged") rfl)⟩
  have D_lowered : Dfd K mg "lowered" s_lowered := ⟨c.def_ 18 (d := d_lowered) rfl, He.glo_ok X G (c.fact 18 (f := .glo "lowered") rfl)⟩
  have D_arrived : Dfd K mg "arrived" s_arrived := ⟨c.def_ 19 (d := d_arrived) rfl, He.glo_ok X G (c.fact 19 (f := .glo "arrived") rfl)⟩
  have D_is_summary : Dfd K mg "is_summary" s_is_summary := ⟨c.def_ 20 (d := d_is_summary) rfl, He.glo_ok X G (c.fact 20 (f := .glo "is_summary") rfl)⟩
  have D_check_summary : Dfd K mg "check_summary" s_check_summary := ⟨c.def_ 21 (d := d_check_summary) rfl, He.glo_ok X G (c.fact 21 (f := .glo "check_summary") rfl)⟩
  have D_is_action : Dfd K mg "is_action" s_is_action := ⟨c.def_ 22 (d := d_is_action) rfl, He.glo_ok X G (c.fact 22 (f := .glo "is_action") rfl)⟩
  have D_check_actions : Dfd K mg "check_actions" s_check_actions := ⟨c.def_ 23 (d := d_check_actions) rfl, He.glo_ok X G (c.fact 23 (f := .glo "check_actions") rfl)⟩
  have D_check_index : Dfd K mg "check_index" s_check_index := ⟨c.def_ 24 (d := d_check_index) rfl, He.glo_ok X G (c.fact 24 (f := .glo "check_index") rfl)⟩
  have D_check_run : Dfd K mg "check_run" s_check_run := ⟨c.def_ 25 (d := d_check_run) rfl, He.glo_ok X G (c.fact 25 (f := .glo "check_run") rfl)⟩
  have D_check_same : Dfd K mg "check_same" s_check_same := ⟨c.def_ 26 (d := d_check_same) rfl, He.glo_ok X G (c.fact 26 (f := .glo "check_same") rfl)⟩
  have D_more_rows : Dfd K mg "more_rows" s_more_rows := ⟨c.def_ 27 (d := d_more_rows) rfl, He.glo_ok X G (c.fact 27 (f := .glo "more_rows") rfl)⟩
  have D_state_after : Dfd K mg "state_after" s_state_after := ⟨c.def_ 28 (d := d_state_after) rfl, He.glo_ok X G (c.fact 28 (f := .glo "state_after") rfl)⟩
  have D_current_of : Dfd K mg "current_of" s_current_of := ⟨c.def_ 29 (d := d_current_of) rfl, He.glo_ok X G (c.fact 29 (f := .glo "current_of") rfl)⟩
  have D_Collector___init__ : DfdM K "Collector" "__init__" "Collector.__init__" s_Collector___init__ [] := ⟨c.def_ 30 (d := d_Collector___init__) rfl, He.meth_ok (c.fact 30 (f := .meth "Collector" "__init__") rfl)⟩
  have D_Collector___eq__ : DfdM K "Collector" "__eq__" "Collector.__eq__" s_Collector___eq__ [] := ⟨c.def_ 31 (d := d_Collector___eq__) rfl, He.meth_ok (c.fact 31 (f := .meth "Collector" "__eq__") rfl)⟩
  have D_Collector___len__ : DfdM K "Collector" "__len__" "Collector.__len__" s_Collector___len__ [] := ⟨c.def_ 32 (d := d_Collector___len__) rfl, He.meth_ok (c.fact 32 (f := .meth "Collector" "__len__") rfl)⟩
  have D_Collector___str__ : DfdM K "Collector" "__str__" "Collector.__str__" s_Collector___str__ [] := ⟨c.def_ 33 (d := d_Collector___str__) rfl, He.meth_ok (c.fact 33 (f := .meth "Collector" "__str__") rfl)⟩
  have D_Collector___repr__ : DfdM K "Collector" "__repr__" "Collector.__repr__" s_Collector___repr__ [] := ⟨c.def_ 34 (d := d_Collector___repr__) rfl, He.meth_ok (c.fact 34 (f := .meth "Collector" "__repr__") rfl)⟩
  have D_Collector_start : DfdM K "Collector" "start" "Collector.start" s_Collector_start [] := ⟨c.def_ 35 (d := d_Collector_start) rfl, He.meth_ok (c.fact 35 (f := .meth "Collector" "start") rfl)⟩
  have D_Collector_entries : DfdM K "Collector" "entries" "Collector.entries" s_Collector_entries [] := ⟨c.def_ 36 (d := d_Collector_entries) rfl, He.meth_ok (c.fact 36 (f := .meth "Collector" "entries") rfl)⟩
  have D_Collector_current : DfdM K "Collector" "current" "Collector.current" s_Collector_current [] := ⟨c.def_ 37 (d := d_Collector_current) rfl, He.meth_ok (c.fact 37 (f := .meth "Collector" "current") rfl)⟩
  have D_Collector_history : DfdM K "Collector" "history" "Collector.history" s_Collector_history [] := ⟨c.def_ 38 (d := d_Collector_history) rfl, He.meth_ok (c.fact 38 (f := .meth "Collector" "history") rfl)⟩
  have D_Collector_arrived : DfdM K "Collector" "arrived" "Collector.arrived" s_Collector_arrived [] := ⟨c.def_ 39 (d := d_Collector_arrived) rfl, He.meth_ok (c.fact 39 (f := .meth "Collector" "arrived") rfl)⟩
  have D_Collector_change : DfdM K "Collector" "change" "Collector.change" s_Collector_change [] := ⟨c.def_ 40 (d := d_Collector_change) rfl, He.meth_ok (c.fact 40 (f := .meth "Collector" "change") rfl)⟩
  have D_Collector_do : DfdM K "Collector" "do" "Collector.do" s_Collector_do [] := ⟨c.def_ 41 (d := d_Collector_do) rfl, He.meth_ok (c.fact 41 (f := .meth "Collector" "do") rfl)⟩
  have D_Collector_arrive : DfdM K "Collector" "arrive" "Collector.arrive" s_Collector_arrive [.int 1] := ⟨c.def_ 42 (d := d_Collector_arrive) rfl, He.meth_ok (c.fact 42 (f := .meth "Collector" "arrive") rfl)⟩
  have D_Collector_merge : DfdM K "Collector" "merge" "Collector.merge" s_Collector_merge [] := ⟨c.def_ 43 (d := d_Collector_merge) rfl, He.meth_ok (c.fact 43 (f := .meth "Collector" "merge") rfl)⟩
  have D_Collector_restart : DfdM K "Collector" "restart" "Collector.restart" s_Collector_restart [] := ⟨c.def_ 44 (d := d_Collector_restart) rfl, He.meth_ok (c.fact 44 (f := .meth "Collector" "restart") rfl)⟩
  have D_Collector_do_all : DfdMK K "Collector" "do_all" "Collector.do_all" s_Collector_do_all [("observer", .non)] := ⟨c.def_ 45 (d := d_Collector_do_all) rfl, He.meth_ok (c.fact 45 (f := .meth "Collector" "do_all") rfl)⟩
  have D_Collector_preview : DfdM K "Collector" "preview" "Collector.preview" s_Collector_preview [] := ⟨c.def_ 46 (d := d_Collector_preview) rfl, He.meth_ok (c.fact 46 (f := .meth "Collector" "preview") rfl)⟩
  have D_Collector_undo : DfdM K "Collector" "undo" "Collector.undo" s_Collector_undo [] := ⟨c.def_ 47 (d := d_Collector_undo) rfl, He.meth_ok (c.fact 47 (f := .meth "Collector" "undo") rfl)⟩
  have D__law_cell : Dfd K mg "_law_cell" s__law_cell := ⟨c.def_ 48 (d := d__law_cell) rfl, He.glo_ok X G (c.fact 48 (f := .glo "_law_cell") rfl)⟩
  have D__law_pool : Dfd K mg "_law_pool" s__law_pool := ⟨c.def_ 49 (d := d__law_pool) rfl, He.glo_ok X G (c.fact 49 (f := .glo "_law_pool") rfl)⟩
  have D__law_draw : Dfd K mg "_law_draw" s__law_draw := ⟨c.def_ 50 (d := d__law_draw) rfl, He.glo_ok X G (c.fact 50 (f := .glo "_law_draw") rfl)⟩
  have D__law_words : Dfd K mg "_law_words" s__law_words := ⟨c.def_ 51 (d := d__law_words) rfl, He.glo_ok X G (c.fact 51 (f := .glo "_law_words") rfl)⟩
  have D__law_often : Dfd K mg "_law_often" s__law_often := ⟨c.def_ 52 (d := d__law_often) rfl, He.glo_ok X G (c.fact 52 (f := .glo "_law_often") rfl)⟩
  have D__law_bag : Dfd K mg "_law_bag" s__law_bag := ⟨c.def_ 53 (d := d__law_bag) rfl, He.glo_ok X G (c.fact 53 (f := .glo "_law_bag") rfl)⟩
  have D__law_run : Dfd K mg "_law_run" s__law_run := ⟨c.def_ 54 (d := d__law_run) rfl, He.glo_ok X G (c.fact 54 (f := .glo "_law_run") rfl)⟩
  have D__law_flat : Dfd K mg "_law_flat" s__law_flat := ⟨c.def_ 55 (d := d__law_flat) rfl, He.glo_ok X G (c.fact 55 (f := .glo "_law_flat") rfl)⟩
  have D__law_held : Dfd K mg "_law_held" s__law_held := ⟨c.def_ 56 (d := d__law_held) rfl, He.glo_ok X G (c.fact 56 (f := .glo "_law_held") rfl)⟩
  have D__law_merged : Dfd K mg "_law_merged" s__law_merged := ⟨c.def_ 57 (d := d__law_merged) rfl, He.glo_ok X G (c.fact 57 (f := .glo "_law_merged") rfl)⟩
  have D__law_text : Dfd K mg "_law_text" s__law_text := ⟨c.def_ 58 (d := d__law_text) rfl, He.glo_ok X G (c.fact 58 (f := .glo "_law_text") rfl)⟩
  have D__law_now : Dfd K mg "_law_now" s__law_now := ⟨c.def_ 59 (d := d__law_now) rfl, He.glo_ok X G (c.fact 59 (f := .glo "_law_now") rfl)⟩
  have D__law_plain : Dfd K mg "_law_plain" s__law_plain := ⟨c.def_ 60 (d := d__law_plain) rfl, He.glo_ok X G (c.fact 60 (f := .glo "_law_plain") rfl)⟩
  have D__law_done : Dfd K mg "_law_done" s__law_done := ⟨c.def_ 61 (d := d__law_done) rfl, He.glo_ok X G (c.fact 61 (f := .glo "_law_done") rfl)⟩
  have D__law_deed : Dfd K mg "_law_deed" s__law_deed := ⟨c.def_ 62 (d := d__law_deed) rfl, He.glo_ok X G (c.fact 62 (f := .glo "_law_deed") rfl)⟩
  have D__law_deeds : Dfd K mg "_law_deeds" s__law_deeds := ⟨c.def_ 63 (d := d__law_deeds) rfl, He.glo_ok X G (c.fact 63 (f := .glo "_law_deeds") rfl)⟩
  have D__law_rows_right : Dfd K mg "_law_rows_right" s__law_rows_right := ⟨c.def_ 64 (d := d__law_rows_right) rfl, He.glo_ok X G (c.fact 64 (f := .glo "_law_rows_right") rfl)⟩
  have D__law_told_right : Dfd K mg "_law_told_right" s__law_told_right := ⟨c.def_ 65 (d := d__law_told_right) rfl, He.glo_ok X G (c.fact 65 (f := .glo "_law_told_right") rfl)⟩
  have D__law_drawn : Dfd K mg "_law_drawn" s__law_drawn := ⟨c.def_ 66 (d := d__law_drawn) rfl, He.glo_ok X G (c.fact 66 (f := .glo "_law_drawn") rfl)⟩
  have D__law_in_groups : Dfd K mg "_law_in_groups" s__law_in_groups := ⟨c.def_ 67 (d := d__law_in_groups) rfl, He.glo_ok X G (c.fact 67 (f := .glo "_law_in_groups") rfl)⟩
  have D__law_all_told : Dfd K mg "_law_all_told" s__law_all_told := ⟨c.def_ 68 (d := d__law_all_told) rfl, He.glo_ok X G (c.fact 68 (f := .glo "_law_all_told") rfl)⟩
  have D__law_all_same : Dfd K mg "_law_all_same" s__law_all_same := ⟨c.def_ 69 (d := d__law_all_same) rfl, He.glo_ok X G (c.fact 69 (f := .glo "_law_all_same") rfl)⟩
  have D__law_right : Dfd K mg "_law_right" s__law_right := ⟨c.def_ 70 (d := d__law_right) rfl, He.glo_ok X G (c.fact 70 (f := .glo "_law_right") rfl)⟩
  have D_law : Dfd K mg "law" s_law := ⟨c.def_ 71 (d := d_law) rfl, He.glo_ok X G (c.fact 71 (f := .glo "law") rfl)⟩
  have e := hfa.symm.trans D_law.glo
  cases e
  obtain ⟨fd, F⟩ := D_law.ex
  have b := FunD.bindsA (ps := ["_law_script"]) F fun _ _ _ _ _ _ us hl => match us, hl with | [_], _ => rfl
  refine ⟨fd, fun s v => b s [v] rfl, fun base => ?_⟩
  have h__law_draw : Has P w K mg base CX0 1 "_law_draw" s__law_draw ["_law_pool_here", "_law_many"] (sp__law_draw K) := ok__law_draw fr D__law_draw
  have h__law_words : Has P w K mg base CX0 2 "_law_words" s__law_words ["_law_pool_here", "_law_many"] (sp__law_words K) := ok__law_words fr D__law_words h__law_draw
  have h__law_often : Has P w K mg base CX0 2 "_law_often" s__law_often ["_law_pool_here"] (sp__law_often K) := ok__law_often fr D__law_often h__law_draw
  have h__law_bag : Has P w K mg base CX0 3 "_law_bag" s__law_bag ["_law_pool_here", "_law_words_here", "_law_most"] (sp__law_bag K) := ok__law_bag fr D__law_bag h__law_draw h__law_often
  have h__law_plain : Has P w K mg base CX0 4 "_law_plain" s__law_plain ["_law_pool_here", "_law_width", "_law_words_here", "_law_size"] (sp__law_plain K) := ok__law_plain fr D__law_plain h__law_draw h__law_bag h__law_often
  have h__law_done : Has P w K mg base CX0 1 "_law_done" s__law_done ["_law_state", "_law_plain_here"] (sp__law_done K) := ok__law_done fr D__law_done
  have h__law_drawn : Has P w K mg base CX0 5 "_law_drawn" s__law_drawn ["_law_pool_here", "_law_width", "_law_words_here", "_law_state", "_law_most"] (sp__law_drawn K) := ok__law_drawn fr D__law_drawn h__law_draw h__law_plain h__law_done
  have h_is_whole : Has P w K mg base CX0 1 "is_whole" s_is_whole ["thing"] (sp_is_whole K) := ok_is_whole fr D_is_whole
  have h_is_between : Has P w K mg base CX0 2 "is_between" s_is_between ["thing", "least", "most"] (sp_is_between K) := ok_is_between fr D_is_between h_is_whole
  have h_is_capacity : Has P w K mg base CX0 3 "is_capacity" s_is_capacity ["thing"] (sp_is_capacity K) := ok_is_capacity fr c_MAX_CAPACITY D_is_capacity h_is_between
  have h_check_capacity : Has P w K mg base CX0 4 "check_capacity" s_check_capacity ["thing"] (sp_check_capacity K) := ok_check_capacity fr D_check_capacity h_is_capacity
  have h_is_from : Has P w K mg base CX0 2 "is_from" s_is_from ["thing", "least"] (sp_is_from K) := ok_is_from fr D_is_from h_is_whole
  have h_is_name : Has P w K mg base CX0 1 "is_name" s_is_name ["thing"] (sp_is_name K) := ok_is_name fr c_LETTERS D_is_name
  have h_is_run : Has P w K mg base CX0 3 "is_run" s_is_run ["thing"] (sp_is_run K) := ok_is_run fr D_is_run h_is_from h_is_name
  have h_first_invalid : Has P w K mg base CX0 4 "first_invalid" s_first_invalid ["thing", "most"] (sp_first_invalid K) := ok_first_invalid fr D_first_invalid h_is_run
  have h_Summary___init__ : HasM P w K mg base CX0 5 "Summary" "__init__" "Summary.__init__" s_Summary___init__ [.ref (dflA "Summary" "__init__" 0 K)] ["self", "capacity", "counts"] (sp_Summary___init__ K) := ok_Summary___init__ fr cl_Summary et_Summary___init___0 D_Summary___init__ h_check_capacity h_first_invalid
  have h__law_deed : Has P w K mg base CX0 7 "_law_deed" s__law_deed ["_law_width", "_law_plain_here"] (sp__law_deed K) := ok__law_deed fr cl_Summary et_Summary___init___0 D__law_deed h_Summary___init__
  have h__law_deeds : Has P w K mg base CX0 8 "_law_deeds" s__law_deeds ["_law_width", "_law_plains"] (sp__law_deeds K) := ok__law_deeds fr D__law_deeds h__law_deed
  have h_Collector___init__ : HasM P w K mg base CX0 7 "Collector" "__init__" "Collector.__init__" s_Collector___init__ [] ["self", "capacity"] (sp_Collector___init__ K) := ok_Collector___init__ fr cl_Collector cl_Summary et_Summary___init___0 kx_Collector_Summary kx_Summary_Collector D_Collector___init__ h_check_capacity h_Summary___init__
  have h_is_action : Has P w K mg base CX0 1 "is_action" s_is_action ["thing"] (sp_is_action K) := ok_is_action fr gd_ACTION_SIZES D_is_action
  have h_is_summary : Has P w K mg base CX0 1 "is_summary" s_is_summary ["thing"] (sp_is_summary K) := ok_is_summary fr cl_Summary et_Summary___init___0 D_is_summary
  have h_check_summary : Has P w K mg base CX0 2 "check_summary" s_check_summary ["thing"] (sp_check_summary K) := ok_check_summary fr D_check_summary h_is_summary
  have h_check_same : Has P w K mg base CX0 3 "check_same" s_check_same ["capacity", "summary"] (sp_check_same K) := ok_check_same fr cl_Summary et_Summary___init___0 D_check_same h_check_summary
  have h_check_index : Has P w K mg base CX0 3 "check_index" s_check_index ["index", "most"] (sp_check_index K) := ok_check_index fr D_check_index h_is_between
  have h_check_name : Has P w K mg base CX0 2 "check_name" s_check_name ["thing"] (sp_check_name K) := ok_check_name fr D_check_name h_is_name
  have h_check_run : Has P w K mg base CX0 3 "check_run" s_check_run ["name", "times"] (sp_check_run K) := ok_check_run fr D_check_run h_check_name h_is_from
  have h_more_rows : Has P w K mg base CX0 4 "more_rows" s_more_rows ["capacity", "rows", "action"] (sp_more_rows K) := ok_more_rows fr D_more_rows h_check_same h_check_run h_check_index
  have h_state_after : Has P w K mg base CX0 5 "state_after" s_state_after ["capacity", "state", "action"] (sp_state_after K) := ok_state_after fr c_MAX_ACTIONS D_state_after h_check_same h_check_index h_more_rows
  have h_Collector_change : HasM P w K mg base CX0 6 "Collector" "change" "Collector.change" s_Collector_change [] ["self", "action"] (sp_Collector_change K) := ok_Collector_change fr cl_Collector D_Collector_change h_state_after
  have h_table_of : Has P w K mg base CX0 1 "table_of" s_table_of ["pairs"] (sp_table_of K) := ok_table_of fr D_table_of
  have h_counts_of_table : Has P w K mg base CX0 1 "counts_of_table" s_counts_of_table ["table"] (sp_counts_of_table K) := ok_counts_of_table fr D_counts_of_table
  have h_Summary_merged : HasM P w K mg base CX0 7 "Summary" "merged" "Summary.merged" s_Summary_merged [] ["self", "other"] (sp_Summary_merged K) := ok_Summary_merged fr cl_Summary et_Summary___init___0 D_Summary_merged h_check_summary h_table_of h_Summary___init__ h_counts_of_table
  have h_lowered : Has P w K mg base CX0 1 "lowered" s_lowered ["table", "step"] (sp_lowered K) := ok_lowered fr D_lowered
  have h_arrived : Has P w K mg base CX0 2 "arrived" s_arrived ["capacity", "table", "name", "times"] (sp_arrived K) := ok_arrived fr D_arrived h_lowered
  have h_Summary_arrive : HasM P w K mg base CX0 7 "Summary" "arrive" "Summary.arrive" s_Summary_arrive [.int 1] ["self", "name", "times"] (sp_Summary_arrive K) := ok_Summary_arrive fr cl_Summary et_Summary___init___0 D_Summary_arrive h_check_name h_is_from h_Summary___init__ h_counts_of_table h_arrived h_table_of
  have h_current_of : Has P w K mg base CX0 8 "current_of" s_current_of ["begin", "rows"] (sp_current_of K) := ok_current_of fr cl_Summary et_Summary___init___0 D_current_of h_is_summary h_Summary_merged h_Summary_arrive
  have h_Collector_current : HasM P w K mg base CX0 9 "Collector" "current" "Collector.current" s_Collector_current [] ["self"] (sp_Collector_current K) := ok_Collector_current fr cl_Collector D_Collector_current h_current_of
  have h_Collector_do : HasM P w K mg base CX0 10 "Collector" "do" "Collector.do" s_Collector_do [] ["self", "action"] (sp_Collector_do K) := ok_Collector_do fr cl_Collector D_Collector_do h_is_action h_Collector_change h_Collector_current
  have h_check_actions : Has P w K mg base CX0 2 "check_actions" s_check_actions ["actions"] (sp_check_actions K) := ok_check_actions fr D_check_actions h_is_action
  have h_Collector_do_all : HasMK P w K mg base CX0 10 "Collector" "do_all" "Collector.do_all" s_Collector_do_all [("observer", .non)] ["self", "actions", "observer"] (sp_Collector_do_all K) := ok_Collector_do_all fr cl_Collector D_Collector_do_all h_check_actions h_Collector_change h_Collector_current
  have h_Collector_undo : HasM P w K mg base CX0 10 "Collector" "undo" "Collector.undo" s_Collector_undo [] ["self"] (sp_Collector_undo K) := ok_Collector_undo fr cl_Collector D_Collector_undo h_Collector_current
  have h__law_in_groups : Has P w K mg base CX0 11 "_law_in_groups" s__law_in_groups ["_law_box", "_law_pool_here", "_law_words_here", "_law_plains", "_law_states"] (sp__law_in_groups K) := ok__law_in_groups fr cl_Collector D__law_in_groups h__law_drawn h_Collector_do_all h__law_deeds h_Collector_undo h__law_draw
  have h_Collector_restart : HasM P w K mg base CX0 11 "Collector" "restart" "Collector.restart" s_Collector_restart [] ["self", "summary"] (sp_Collector_restart K) := ok_Collector_restart fr cl_Collector D_Collector_restart h_Collector_do
  have h_Collector_start : HasM P w K mg base CX0 1 "Collector" "start" "Collector.start" s_Collector_start [] ["self"] (sp_Collector_start K) := ok_Collector_start fr cl_Collector D_Collector_start
  have h_Collector_entries : HasM P w K mg base CX0 1 "Collector" "entries" "Collector.entries" s_Collector_entries [] ["self"] (sp_Collector_entries K) := ok_Collector_entries fr cl_Collector D_Collector_entries
  have h_Collector_merge : HasM P w K mg base CX0 11 "Collector" "merge" "Collector.merge" s_Collector_merge [] ["self", "summary"] (sp_Collector_merge K) := ok_Collector_merge fr cl_Collector D_Collector_merge h_Collector_do
  have h_Collector_arrive : HasM P w K mg base CX0 11 "Collector" "arrive" "Collector.arrive" s_Collector_arrive [.int 1] ["self", "name", "times"] (sp_Collector_arrive K) := ok_Collector_arrive fr cl_Collector D_Collector_arrive h_Collector_do
  have h_Collector___len__ : HasM P w K mg base CX0 1 "Collector" "__len__" "Collector.__len__" s_Collector___len__ [] ["self"] (sp_Collector___len__ K) := ok_Collector___len__ fr cl_Collector D_Collector___len__
  have h__law_held : Has P w K mg base CX0 1 "_law_held" s__law_held ["_law_bag_here"] (sp__law_held K) := ok__law_held fr D__law_held
  have h__law_merged : Has P w K mg base CX0 2 "_law_merged" s__law_merged ["_law_width", "_law_one_bag", "_law_more_bag"] (sp__law_merged K) := ok__law_merged fr D__law_merged h__law_held
  have h__law_flat : Has P w K mg base CX0 1 "_law_flat" s__law_flat ["_law_held_here"] (sp__law_flat K) := ok__law_flat fr D__law_flat
  have h__law_run : Has P w K mg base CX0 1 "_law_run" s__law_run ["_law_width", "_law_held_here", "_law_word", "_law_often_here"] (sp__law_run K) := ok__law_run fr D__law_run
  have h__law_now : Has P w K mg base CX0 3 "_law_now" s__law_now ["_law_width", "_law_state"] (sp__law_now K) := ok__law_now fr D__law_now h__law_merged h__law_flat h__law_run h__law_held
  have h_counts_text : HasA P w K mg base CX0 1 "counts_text" s_counts_text ["counts"] (sp_counts_text K) := ok_counts_text fr D_counts_text
  have h_Summary___str__ : HasM P w K mg base CX0 2 "Summary" "__str__" "Summary.__str__" s_Summary___str__ [] ["self"] (sp_Summary___str__ K) := ok_Summary___str__ fr cl_Summary et_Summary___init___0 D_Summary___str__ h_counts_text
  have h_Collector___str__ : HasM P w K mg base CX0 9 "Collector" "__str__" "Collector.__str__" s_Collector___str__ [] ["self"] (sp_Collector___str__ K) := ok_Collector___str__ fr cl_Collector cl_Summary et_Summary___init___0 kx_Collector_Summary kx_Summary_Collector D_Collector___str__ h_Summary___str__ h_current_of
  have h__law_text : Has P w K mg base CX0 1 "_law_text" s__law_text ["_law_bag_here"] (sp__law_text K) := ok__law_text fr D__law_text
  have h_Collector___repr__ : HasM P w K mg base CX0 1 "Collector" "__repr__" "Collector.__repr__" s_Collector___repr__ [] ["self"] (sp_Collector___repr__ K) := ok_Collector___repr__ fr cl_Collector D_Collector___repr__
  have h_Collector_arrived : HasM P w K mg base CX0 2 "Collector" "arrived" "Collector.arrived" s_Collector_arrived [] ["self"] (sp_Collector_arrived K) := ok_Collector_arrived fr c_MAX_NAMES cl_Collector D_Collector_arrived h_table_of h_is_summary h_counts_of_table
  have h_Summary___repr__ : HasMA P w K mg base CX0 2 "Summary" "__repr__" "Summary.__repr__" s_Summary___repr__ [] ["self"] (sp_Summary___repr__ K) := ok_Summary___repr__ fr cl_Summary et_Summary___init___0 D_Summary___repr__ h_counts_text
  have h__law_rows_right : Has P w K mg base CX0 10 "_law_rows_right" s__law_rows_right ["_law_told", "_law_width", "_law_rows"] (sp__law_rows_right K) := ok__law_rows_right fr cl_Summary et_Summary___init___0 D__law_rows_right h_Summary___repr__ h_is_summary
  have h__law_told_right : Has P w K mg base CX0 12 "_law_told_right" s__law_told_right ["_law_box", "_law_width", "_law_state"] (sp__law_told_right K) := ok__law_told_right fr cl_Summary et_Summary___init___0 cl_Collector kx_Summary_Collector kx_Collector_Summary D__law_told_right h__law_now h_Collector_current h_Collector_start h_Collector___str__ h__law_text h_Collector___len__ h_Collector___repr__ h_Collector_arrived h__law_flat h__law_rows_right h_Collector_entries
  have h_Collector_preview : HasM P w K mg base CX0 9 "Collector" "preview" "Collector.preview" s_Collector_preview [] ["self", "actions"] (sp_Collector_preview K) := ok_Collector_preview fr cl_Collector D_Collector_preview h_check_actions h_state_after h_current_of
  have h__law_all_told : Has P w K mg base CX0 12 "_law_all_told" s__law_all_told ["_law_box", "_law_at", "_law_word"] (sp__law_all_told K) := ok__law_all_told fr cl_Collector cl_Summary et_Summary___init___0 kx_Collector_Summary kx_Summary_Collector D__law_all_told h_Collector___repr__ h_Collector___str__ h_Collector___len__ h_Collector_arrived h_Collector_current h_Collector_entries h_Collector_start h_Summary___repr__ h_Collector_preview h_Summary___init__
  have h_Summary___eq__ : HasMA P w K mg base CX0 1 "Summary" "__eq__" "Summary.__eq__" s_Summary___eq__ [] ["self", "other"] (sp_Summary___eq__ K) := ok_Summary___eq__ fr cl_Summary et_Summary___init___0 D_Summary___eq__
  have h_Collector___eq__ : HasM P w K mg base CX0 3 "Collector" "__eq__" "Collector.__eq__" s_Collector___eq__ [] ["self", "other"] (sp_Collector___eq__ K) := ok_Collector___eq__ fr cl_Collector cl_Summary et_Summary___init___0 kx_Collector_Summary kx_Summary_Collector D_Collector___eq__ h_Summary___eq__
  have h__law_all_same : Has P w K mg base CX0 13 "_law_all_same" s__law_all_same ["_law_boxes", "_law_at", "_law_word"] (sp__law_all_same K) := ok__law_all_same fr cl_Collector D__law_all_same h__law_all_told h_Collector___eq__
  have h_Collector_history : HasM P w K mg base CX0 1 "Collector" "history" "Collector.history" s_Collector_history [] ["self"] (sp_Collector_history K) := ok_Collector_history fr cl_Collector D_Collector_history
  have h__law_right : Has P w K mg base CX0 14 "_law_right" s__law_right ["_law_pool_here"] (sp__law_right K) := ok__law_right fr cl_Collector cl_Summary et_Summary___init___0 kx_Collector_Summary kx_Summary_Collector D__law_right h__law_words h__law_draw h__law_drawn h__law_deeds h_Collector___init__ h_Collector_do h_Collector_do_all h__law_in_groups h_Collector_restart h_Collector_start h_Collector_entries h_is_summary h_Collector_merge h_Collector_arrive h_Collector___len__ h__law_told_right h__law_all_same h_Summary___repr__ h_Collector_history h_Collector_undo h_Collector_current h__law_now h_Collector___eq__
  have h__law_pool : Has P w K mg base CX0 1 "_law_pool" s__law_pool ["_law_cell_here"] (sp__law_pool K) := ok__law_pool fr D__law_pool
  have h__law_cell : Has P w K mg base CX0 1 "_law_cell" s__law_cell ["_law_script", "_law_k"] (sp__law_cell K) := ok__law_cell fr D__law_cell
  have h_law : Has P w K mg base CX0 15 "law" s_law ["_law_script"] (sp_law K) := ok_law fr D_law h__law_right h__law_pool h__law_cell
  exact h_law.fixed F
end TP
open PySem PySem.W PySem.Calls PyProof.Rows
set_option maxRecDepth 100000 in
set_option maxHeartbeats 0 in
theorem PySem.Challenge.cw_tallyplans_k83_whole_a_collector_is_its_holds : PySem.Challenge.rw_tallyplans_k83_whole_a_collector_is_its.Holds := by
  w_on; o_law
  refine HandSHeadRun.head_any (r := OpenLaw.row PySem.Challenge.rw_tallyplans_k83_whole_a_collector_is_its) (q := view (OpenLaw.row PySem.Challenge.rw_tallyplans_k83_whole_a_collector_is_its).prog [83]) (H := TP.hk) (ob := TP.ob) (M := 16000) (loose := TP.loose) (d := HandSHeadRun.topDef (OpenLaw.row PySem.Challenge.rw_tallyplans_k83_whole_a_collector_is_its).prog 83) (kwd := []) TP.ob_eq
    (by kernel_rfl) (fun s => by kernel_rfl) TP.run (by kernel_rfl) (by kernel_rfl) (by kernel_rfl) (by rfl) (by first | assumption | decide +kernel) (by decide +kernel) ⟨rfl, rfl, rfl, rfl, rfl, by decide +kernel⟩ ?hw ?hc
  case hw => w_witness2
  case hc =>
    refine TP.walkG (l := PySem.Challenge.rw_tallyplans_k83_whole_a_collector_is_its) (n := 63) (k := 15) (x := "_law_script") rfl (by decide) (by kernel_rfl) ⟨rfl, by decide, by decide⟩ ?F
    intro w mg fa h Y G hmg0
    obtain ⟨K, KX, c, cx⟩ := Y
    have hmg : mg ("law" : PySem.Str) = some (.ref fa) := by
      have e : (HandSHeadRun.topDef (OpenLaw.row PySem.Challenge.rw_tallyplans_k83_whole_a_collector_is_its).prog 83).name = ("law" : PySem.Str) := by kernel_rfl
      rw [← e]
      exact hmg0
    obtain ⟨fd, hb, hF⟩ := TP.facts (P := (PySem.Challenge.rw_tallyplans_k83_whole_a_collector_is_its).prog) (w := w) KX G hmg c.d cx c
    exact ⟨K, fd, TP.sp_law K, KX, hb, fun H a ns hl hS => ⟨a, ns, rfl, hS, hl, fun _ => rfl⟩, fun base _ _ => hF base⟩
