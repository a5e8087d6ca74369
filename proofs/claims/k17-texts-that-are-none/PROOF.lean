import PyProof.Rows.All
import Wide.All
import OpenK.AllK
import Wide.FinOn
import KE.KStateDown
import HandS.ForMost
import HandS.More
import HandS.Flow
import HandS.Style
import HandS.Wide
import HandS.WideBits
import HandS.IsInst
import HandS.Defaults
import HandS.FStr
import HandS.DictComp
import HandS.Walk
import HandS.Exc
import HandS.WordsExc
import HandS.Head0
import HandS.Head1
import HandS.Head2
import HandS.HeadEnd
import HandS.HeadHook1
import HandS.HeadHook2
import PyProof.ReprRoads
import KE.GoesEnum
import KE.GoesMore
import HandS.TupAny
import HandS.RaiseMore
import PyProof.StrLawsRepr
import PyProof.StrOps2
import PyProof.StrBlockL
import PyProof.Rows.RegStrFacts
import HandS.MakeKw
import HandS.TupMul
import HandS.SortKw
import OpenK.KOps
import KE.KCallOwn
import KE.KEqDict
import HandS.TupSets
import KE.KSortTupAny
import PyProof.InstNe
import HandS.Text
import KE.DataMinMax
import HandS.Lambda
import HandS.ExcInit
import HandS.ExcIs
import HandS.ExcField
import HandS.HotCalls
import HandS.EndTab
import HandS.HeadHook4
import HandS.SetFor
import HandS.TryOnly
import HandS.Strs
import HandS.SortInts
import KE.KSortAsk
import PySem.Challenge.RW_tallyplans_k17_texts_that_are_none
set_option Elab.async false
set_option linter.all false
set_option maxRecDepth 100000
set_option maxHeartbeats 4000000
namespace TP
open PySem PySem.Spec PyProof.Rows L2
/-! ### a def that is called where no repr is under way -/
structure FnG (P : Program) (w : World) (K : PySem.W.Frag) (mg : Str → Option Value) (base : Heap) (CX : CXT) (k : Nat) (f : Addr) (fd : FuncData) (ps : List Str) (sp : Sp) : Prop where
  len : ∀ vs H Q E, sp vs H Q E → vs.length = ps.length
  run : ∀ (A : Around) (outer : List Env) (s : Shared) (H : Hp) (args : Args) (us : List Value) (vs : List V) (Q : VK) (E : XK), Room k A → A.guards = some [] →
    Env0 P w K mg base A outer s H → BindsTo s fd args (ps.zip us) → Vals vs us → sp vs H Q E → codeAny (model P w) A (.call (.ref f) args) (CR CX outer P w H s Q E) s
section
variable {P : Program} {w : World} {K : PySem.W.Frag} {mg : Str → Option Value} {base : Heap} {CX : CXT} {j k : Nat} {f : Addr} {fd : FuncData} {ps : List Str} {sp sp' : Sp}
theorem FnG.imp (F : FnG P w K mg base CX k f fd ps sp) (h : ∀ vs H Q E, sp' vs H Q E → sp vs H Q E) : FnG P w K mg base CX k f fd ps sp' :=
  ⟨fun vs H Q E q => F.len vs H Q E (h _ _ _ _ q), fun A outer s H args us vs Q E hr hg e b r q => F.run A outer s H args us vs Q E hr hg e b r (h _ _ _ _ q)⟩
end
/-- the rule for a def, its body told with what is around it -/
theorem fnG_of {CX : CXT} {P : Program} {w : World} {K : PySem.W.Frag} {mg : Str → Option Value} {base : Heap} {k : Nat} {f : Addr} {x qual : Str} {params : Arguments} {body : List Stmt} {scope : Scope} {dvs : List V} {kws : List (Str × V)} {fd : FuncData} {N ps : List Str} {sp : Sp}
    (F : FunD K x qual params body scope dvs kws f fd) (S : FnScope N ps scope) (len : ∀ vs H Q E, sp vs H Q E → vs.length = ps.length)
    (hbody : ∀ (cdv : Value) (A : Around) (outer : List Env) (s : Shared) (H : Hp) (vs : List V) (Q : VK) (E : XK), Room k (A.deeper (envOfC qual scope s.heap.objs.size f cdv)) → (A.deeper (envOfC qual scope s.heap.objs.size f cdv)).guards = some [] → sp vs H Q E →
      ∃ t, PSs (cxOf CX P w K mg base N qual scope f cdv A outer s H E) body t ∧ t { nx := fun _ H' => Q .non H', rt := Q } (start N vs) H) :
    FnG P w K mg base CX (k + 1) f fd ps sp := by
  obtain ⟨oc, od, dV, kV, doc, pm, an, cdv, ct, osl, rfl, lk, hcd, _, _⟩ := F.ex
  refine ⟨len, fun A outer s H args us vs Q E hr hg e0 hb r hsp => ?_⟩
  have hl := len _ _ _ _ hsp
  have kx : K.In s.heap := e0.mod.kin.keeps fun b o e => (e0.bs b o e).1
  have nl : s.heap.NoLimit := e0.mod.nolimit.keeps fun b o e => (e0.bs b o e).1
  refine codeAny_call_function hr.depth (kx _ _ lk) rfl S.co S.gen rfl (PySem.W.codeRec_of kx hcd) (hb _ _ _ _ ?_)
  refine wpAny_newFunctionEnv_cells S.kind (fun ⟨n, v⟩ hy => by
    rcases S.par n (List.of_mem_zip hy).1 with q | q
    · exact .inl q
    · exact .inr ⟨q, PySem.W.cellsFrom_some _ _ _ (.inl q)⟩) fun env he s1 ic => ?_
  subst he
  refine ⟨nl.keeps ic.toInCall.keep, codeAny_func ?_⟩
  obtain ⟨t, ht, hq⟩ := hbody cdv A outer s H vs Q E (hr.deeper _) hg hsp
  have I0 := inv_start (CX := CX) (E := E) S hr.hd e0 hl r ic
  refine wpAny_mono (ht.run [] s1 (start N vs) H _ I0 hq) (fun fl s' hs => ?_) fun e s' hs => hs
  cases fl with
  | ret u =>
    obtain ⟨v, σ', H', J, rv, q⟩ := hs
    exact ⟨v, H', J.os, J.bare, J.base, J.hok, rv, q⟩
  | next =>
    obtain ⟨σ', H', J, q⟩ := hs
    exact ⟨.non, H', J.os, J.bare, J.base, J.hok, rfl, q⟩
  | brk =>
    obtain ⟨_, _, _, q⟩ := hs
    exact q.elim
  | cont =>
    obtain ⟨_, _, _, q⟩ := hs
    exact q.elim
/-! ### a def of the module, by its name -/
structure Has (P : Program) (w : World) (K : PySem.W.Frag) (mg : Str → Option Value) (base : Heap) (CX : CXT) (k : Nat) (x : Str) (st : Stmt) (ps : List Str) (sp : Sp) : Prop where
  ex : ∃ fd, FunD K x x (defArgs st) (defBody st) (defScope st) [] [] (He.ga K x) fd ∧ FnG P w K mg base CX k (He.ga K x) fd ps sp
  glo : mg x = some (.ref (He.ga K x))
/-- what the head tells of a def -/
structure Dfd (K : PySem.W.Frag) (mg : Str → Option Value) (x : Str) (st : Stmt) : Prop where
  ex : ∃ fd, FunD K x x (defArgs st) (defBody st) (defScope st) [] [] (He.ga K x) fd
  glo : mg x = some (.ref (He.ga K x))
section
variable {P : Program} {w : World} {K : PySem.W.Frag} {mg : Str → Option Value} {base : Heap} {CX : CXT} {k j : Nat} {x : Str} {st : Stmt} {N ps : List Str} {sp sp' : Sp}
theorem Dfd.has (D : Dfd K mg x st) (S : FnScope N ps (defScope st)) (len : ∀ vs H Q E, sp vs H Q E → vs.length = ps.length)
    (hbody : ∀ (cdv : Value) (A : Around) (outer : List Env) (s : Shared) (H : Hp) (vs : List V) (Q : VK) (E : XK), Room k (A.deeper (envOfC x (defScope st) s.heap.objs.size (He.ga K x) cdv)) → (A.deeper (envOfC x (defScope st) s.heap.objs.size (He.ga K x) cdv)).guards = some [] → sp vs H Q E →
      ∃ t, PSs (cxOf CX P w K mg base N x (defScope st) (He.ga K x) cdv A outer s H E) (defBody st) t ∧ t { nx := fun _ H' => Q .non H', rt := Q } (start N vs) H) :
    Has P w K mg base CX (k + 1) x st ps sp := by
  obtain ⟨fd, F⟩ := D.ex
  exact ⟨⟨fd, F, fnG_of F S len hbody⟩, D.glo⟩
theorem Has.imp (h : Has P w K mg base CX k x st ps sp) (i : ∀ vs H Q E, sp' vs H Q E → sp vs H Q E) : Has P w K mg base CX k x st ps sp' := by
  obtain ⟨fd, F, G⟩ := h.ex
  exact ⟨⟨fd, F, G.imp i⟩, h.glo⟩
end
section
variable {X : Cx} {CX : CXT} {k : Nat} {f : Addr} {fd : FuncData} {ps ks : List Str} {sp : Sp} {E : XK} {x : Str} {st : Stmt} {p pos : Pos} {e : Expr} {es : List Expr} {kws : List Keyword} {t tk : TA}
/-- how positional values bind where no default stands -/
def PosB (x : Str) (st : Stmt) (ps : List Str) : Prop := ∀ (kV doc pm : Value) (an : Option Addr) (cdv ct : Value) (us : List Value), us.length = ps.length →
  bindArgs (PySem.W.fnOf x x (defArgs st) (defBody st) (defScope st) .none kV doc pm an cdv ct) ⟨us, []⟩ = pure (ps.zip us)
/-- .. and keywords -/
def KwB (x : Str) (st : Stmt) (ps : List Str) (n : Nat) (ks : List Str) (g : {α : Type} → List α → List α → List α) : Prop := ∀ (kV doc pm : Value) (an : Option Addr) (cdv ct : Value) (us ws : List Value), us.length = n → ws.length = ks.length →
  bindArgs (PySem.W.fnOf x x (defArgs st) (defBody st) (defScope st) .none kV doc pm an cdv ct) ⟨us, ks.zip ws⟩ = pure (ps.zip (g us ws))
/-- f(e, .., k = v, ..) -/
def tCallW (sp : Sp) (n m : Nat) (g : {α : Type} → List α → List α → List α) (E : XK) (t tk : TA) : TE := fun σ H Q => t σ H fun vs H1 => tk σ H1 fun zs H2 => vs.length = n ∧ zs.length = m ∧ sp (g vs zs) H2 Q E
end
/-! ### the end of a law -/
section
variable {P : Program} {w : World} {K : PySem.W.Frag} {mg mb : Str → Option Value} {k : Nat} {fa a : Addr} {fd : FuncData} {x : Str} {sp : Sp} {s₁ : Shared} {vs : List Value} {ns : List Int}
end
end TP

namespace TP
open PySem PySem.Spec PyProof.Rows L2
/-! ### heaps -/
section
variable {H H' H1 : Hp} {p q : Addr} {o u : HO}
theorem hp_new (h : H p = some o) (hq : H q = none) : upd H q u p = some o := (upd_ne (ne_of_none h hq)).trans h
theorem same_new (hq : H q = none) : Same H (upd H q u) := fun b o h => hp_new h hq
end
/-- all but what stands at l is as it was -/
def SameB (l : Addr) (H H' : Hp) : Prop := ∀ b o, b ≠ l → H b = some o → H' b = some o
theorem SameB.trans {l : Addr} {H H1 H2 : Hp} (a : SameB l H H1) (b : SameB l H1 H2) : SameB l H H2 := fun c o n h => b c o n (a c o n h)
theorem SameB.upd {l : Addr} {H : Hp} {u : HO} : SameB l H (upd H l u) := fun b o n h => (upd_ne n).trans h
/-- tuples (and what is known of the script) are as they were -/
def SameT (H H' : Hp) : Prop := ∀ a o, H a = some o → (∀ xs, o ≠ .lst xs) → (∀ kvs, o ≠ .dK kvs) → H' a = some o
theorem same_t {H H' : Hp} (s : Same H H') : SameT H H' := fun a o h _ _ => s a o h
theorem SameT.trans {H H1 H2 : Hp} (a : SameT H H1) (b : SameT H1 H2) : SameT H H2 := fun c o h n m => b c o (a c o h n m) n m
theorem SameT.lst {H : Hp} {l : Addr} {xs : List V} {u : HO} (h : H l = some (.lst xs)) : SameT H (upd H l u) := fun a o e n _ => by
  by_cases z : a = l
  · subst z; rw [h] at e; cases e; exact absurd rfl (n xs)
  · exact (upd_ne z).trans e
theorem SameT.new {H : Hp} {l : Addr} {u : HO} (h : H l = none) : SameT H (upd H l u) := same_t (same_new h)
theorem SameT.sqt {K : PySem.W.Frag} {H H' : Hp} {a : Addr} {xs : List V} (s : SameT H H') (h : SqT K H a xs) : SqT K H' a xs := by
  rcases h with (h | ⟨o, h⟩) | h
  · exact .inl (.inl (s _ _ h (fun _ => nofun) fun _ => nofun))
  · exact .inl (.inr ⟨o, s _ _ h (fun _ => nofun) fun _ => nofun⟩)
  · exact .inr h
theorem sqt_same {K : PySem.W.Frag} {H H' : Hp} {a : Addr} {xs : List V} (s : Same H H') (h : SqT K H a xs) : SqT K H' a xs := (same_t s).sqt h
/-! ### data -/
mutual
theorem dp_same {K : PySem.W.Frag} {H H' : Hp} (s : Same H H') : ∀ {v : V} {d : PyData}, Dp K H v d → Dp K H' v d
  | _, _, .non => .non
  | _, _, .bl b => .bl b
  | _, _, .int i => .int i
  | _, _, .str x => .str x
  | _, _, .lst h r => .lst (s.seq h) (dps_same s r)
  | _, _, .tup h r => .tup (sqt_same s h) (dps_same s r)
theorem dps_same {K : PySem.W.Frag} {H H' : Hp} (s : Same H H') : ∀ {vs : List V} {ds : List PyData}, DpAll K H vs ds → DpAll K H' vs ds
  | _, _, .nil => .nil
  | _, _, .cons h r => .cons (dp_same s h) (dps_same s r)
end
mutual
/-- no list within -/
def flatD : PyData → Bool
  | .list _ => false
  | .dict _ => false
  | .tuple ds => flatDs ds
  | _ => true
def flatDs : List PyData → Bool
  | [] => true
  | d :: r => flatD d && flatDs r
end
mutual
theorem dp_flat {K : PySem.W.Frag} {H H' : Hp} (s : SameT H H') : ∀ {v : V} {d : PyData}, Dp K H v d → flatD d = true → Dp K H' v d
  | _, _, .non, _ => .non
  | _, _, .bl b, _ => .bl b
  | _, _, .int i, _ => .int i
  | _, _, .str x, _ => .str x
  | _, _, .lst h r, f => by simp [flatD] at f
  | _, _, .tup h r, f => .tup (s.sqt h) (dps_flat s r (by simpa [flatD] using f))
theorem dps_flat {K : PySem.W.Frag} {H H' : Hp} (s : SameT H H') : ∀ {vs : List V} {ds : List PyData}, DpAll K H vs ds → flatDs ds = true → DpAll K H' vs ds
  | _, _, .nil, _ => .nil
  | _, _, .cons h r, f => by
    have f2 := Bool.and_eq_true_iff.mp (show (flatD _ && flatDs _) = true from f)
    exact .cons (dp_flat s h f2.1) (dps_flat s r f2.2)
end
section
variable {K : PySem.W.Frag} {H : Hp}
end
/-! ### readings, one step at a time -/
section
variable {σ : L2.St} {H : Hp} {Q : VK} {QB : Bool → Hp → Prop} {QA : List V → Hp → Prop} {QO : Option Int → Hp → Prop} {ta tb tc te : TE} {tt tu : TT} {tr : TA} {D : Ends} {s t u : TS} {g : TG} {gs : TGs} {r r' : R2} {v x y : V} {E : XK} {sp : Sp}
def AllocT (xs : List V) (H : Hp) (Q : VK) : Prop := xs.length ≤ sizeLine ∧ ∀ p, H p = none → Q (.ref p) (upd H p (.tup xs))
def AllocL (xs : List V) (H : Hp) (Q : VK) : Prop := xs.length ≤ sizeLine ∧ ∀ p, H p = none → Q (.ref p) (upd H p (.lst xs))
def BlC (H : Hp) (v : V) (k : Bool → Prop) : Prop := ∃ c, v = .bl c ∧ k c
/-! methods of built-ins -/
end
end TP

namespace PySem
open Sem (wp)
end PySem
namespace TP
open PySem PySem.Spec PyProof.Rows L2
/-! ### enumerate of a tuple -/
def IteT (K : PySem.W.Frag) (a : Addr) : It :=
  ⟨fun i H => ∃ xs x, SqT K H a xs ∧ xs[i]? = some x, fun i H v H' => ∃ T x, v = .ref T ∧ H T = none ∧ H' = upd H T (.tup [.int (i : Nat), x]) ∧ ∀ xs, SqT K H a xs → xs[i]? = some x, fun i H => ∃ xs, SqT K H a xs ∧ xs.length = i⟩
def iEnumT (K : PySem.W.Frag) (ta : TA) : TI := fun σ H R => ta σ H fun vs H1 => ∃ a xs, vs = [.ref a] ∧ SqT K H1 a xs ∧ R (IteT K a) H1
end TP

namespace TP
open PySem PySem.Spec PyProof.Rows L2
/-! ### repr -/
mutual
/-- a bound of the shown text; 0 is never one -/
def rb : PyData → Nat
  | .none => 5
  | .bool _ => 5
  | .int _ => 1921
  | .str x => 10 * x.length + 2
  | .list ds => rbs ds + 2
  | .tuple ds => rbs ds + 3
  | .dict _ => 0
def rbs : List PyData → Nat
  | [] => 0
  | d :: r => rb d + 2 + rbs r
end
mutual
/-- ints of at most 1920 bits, texts of plain codes, no dict -/
def okD : PyData → Bool
  | .none => true
  | .bool _ => true
  | .int i => decide (i.natAbs.log2 < 1920)
  | .str x => x.cps.toList.all fun c => decide (c < 16 ^ 8)
  | .list ds => okDs ds
  | .tuple ds => okDs ds
  | .dict _ => false
def okDs : List PyData → Bool
  | [] => true
  | d :: r => okD d && okDs r
end
theorem str_app_len (a b : Str) : (a ++ b).length = a.length + b.length := PySem.Str.length_append a b
theorem textFrom_le : ∀ (ts : List Str) (k : Nat) (acc : Str), (textFrom k acc ts).length ≤ acc.length + (ts.map fun t => t.length + 2).sum
  | [], k, acc => by simp [textFrom]
  | t :: r, k, acc => by
    have ih := textFrom_le r (k + 1) (acc ++ (if k > 0 then ", " else "" : String) ++ t)
    rw [str_app_len, str_app_len] at ih
    have e : (Str.ofString (if k > 0 then ", " else "" : String)).length ≤ 2 := by
      by_cases h : k > 0
      · rw [if_pos h]; decide
      · rw [if_neg h]; decide
    simp only [List.map_cons, List.sum_cons]
    show (textFrom (k + 1) _ r).length ≤ _
    omega
mutual
theorem shown_le : ∀ d : PyData, okD d = true → d.shown.length ≤ rb d
  | .none, _ => by simp only [PyData.shown, rb]; decide
  | .bool b, _ => by cases b <;> simp only [PyData.shown, rb] <;> decide
  | .int i, h => by
    have h' : i.natAbs.log2 < 1920 := of_decide_eq_true (by simpa [okD] using h)
    simp only [PyData.shown, rb]
    exact int_text_len_1921 h'
  | .str x, h => by
    simp only [PyData.shown, rb]
    refine PySem.StrLaws.reprText_len x fun c hc => ?_
    have h' := List.all_eq_true.mp (by simpa only [okD] using h) c hc
    exact of_decide_eq_true h'
  | .list ds, h => by
    have ih := shownAll_le ds (by simpa [okD] using h)
    simp only [PyData.shown, rb, listText]
    have h1 := textFrom_le (PyData.shownAll ds) 0 "["
    rw [str_app_len]
    have e1 : (Str.ofString "[").length = 1 := by decide
    have e2 : (Str.ofString "]").length = 1 := by decide
    rw [e1] at h1
    rw [e2]
    omega
  | .tuple ds, h => by
    have ih := shownAll_le ds (by simpa [okD] using h)
    simp only [PyData.shown, rb, tupleText]
    rw [str_app_len, str_app_len]
    have h1 := StrLaws.join_length_le (Str.ofString ", ") (PyData.shownAll ds)
    have e0 : (Str.ofString ", ").length = 2 := by decide
    rw [e0] at h1
    have e1 : (Str.ofString "(").length = 1 := by decide
    have e2 : (Str.ofString (if ((PyData.shownAll ds).length == 1) = true then ",)" else ")")).length ≤ 2 := by
      by_cases z : ((PyData.shownAll ds).length == 1) = true
      · rw [if_pos z]; decide
      · rw [if_neg z]; decide
    have e3 : ((PyData.shownAll ds).map fun t => t.length + 2).sum = ((PyData.shownAll ds).map (·.length)).sum + (PyData.shownAll ds).length * 2 := by
      generalize PyData.shownAll ds = l
      induction l with
      | nil => rfl
      | cons a r ih2 => simp only [List.map_cons, List.sum_cons, List.length_cons]; omega
    rw [e1]
    omega
  | .dict _, h => by simp [okD] at h
theorem shownAll_le : ∀ ds : List PyData, okDs ds = true → ((PyData.shownAll ds).map fun t => t.length + 2).sum ≤ rbs ds
  | [], _ => by simp [PyData.shownAll, rbs]
  | d :: r, h => by
    have h' := Bool.and_eq_true_iff.mp (show (okD d && okDs r) = true from h)
    have h1 := shown_le d h'.1
    have h2 := shownAll_le r h'.2
    simp only [PyData.shownAll, rbs, List.map_cons, List.sum_cons]
    omega
end
mutual
theorem showable_of : ∀ d : PyData, okD d = true → d.showable = true ∧ d.hasDict = false
  | .none, _ => by simp [PyData.showable, PyData.hasDict]
  | .bool b, _ => by simp [PyData.showable, PyData.hasDict]
  | .int i, h => by simp only [PyData.showable, PyData.hasDict]; exact ⟨by simpa [okD] using h, trivial⟩
  | .str x, _ => by simp [PyData.showable, PyData.hasDict]
  | .list ds, h => by
    have ih := showables_of ds (by simpa [okD] using h)
    simp only [PyData.showable, PyData.hasDict]; exact ih
  | .tuple ds, h => by
    have ih := showables_of ds (by simpa [okD] using h)
    simp only [PyData.showable, PyData.hasDict]; exact ih
  | .dict _, h => by simp [okD] at h
theorem showables_of : ∀ ds : List PyData, okDs ds = true → PyData.showableAll ds = true ∧ PyData.hasDictAll ds = false
  | [], _ => by simp [PyData.showableAll, PyData.hasDictAll]
  | d :: r, h => by
    have h' := Bool.and_eq_true_iff.mp (show (okD d && okDs r) = true from h)
    have h1 := showable_of d h'.1
    have h2 := showables_of r h'.2
    simp [PyData.showableAll, PyData.hasDictAll, h1, h2]
end
/-- what may be shown -/
structure Shows (d : PyData) : Prop where
  ok : okD d = true
  len : rb d ≤ 16777216
  deep : d.depth ≤ 60
def rRepr (K : PySem.W.Frag) : List V → Hp → VK → Prop := fun xs H Q => ∃ v d, xs = [v] ∧ Dp K H v d ∧ Shows d ∧ Q (.str d.shown) H
/-! ### isinstance -/
def tyD : PyData → String
  | .none => "NoneType"
  | .bool _ => "bool"
  | .int _ => "int"
  | .str _ => "str"
  | .list _ => "list"
  | .tuple _ => "tuple"
  | .dict _ => "dict"
theorem ty_dp {K : PySem.W.Frag} {H : Hp} {v : V} {d : PyData} (h : Dp K H v d) : TyX K H v (.type (tyD d)) := by
  cases h with
  | non => exact .base .non
  | bl b => exact .base (.bl b)
  | int i => exact .base (.int i)
  | str x => exact .base (.str x)
  | lst h _ =>
    rcases h with (h | ⟨o, h⟩) | ⟨o, its, n, h, c, _⟩
    · exact .base (.lst h)
    · exact .base (.frz h)
    · exact .kList h c
  | tup h _ =>
    rcases h with (h | ⟨o, h⟩) | ⟨o, its, n, h, c, _⟩
    · exact .base (.tup h)
    · exact .fTuple h
    · exact .kTuple h c
/-! ### a text times a number -/
def repS (n : Nat) (x : Str) : Str := ⟨((List.replicate n x.cps.toList).flatten).toArray⟩
end TP

namespace TP
open PySem PySem.Spec PyProof.Rows L2
/-! ### a pool of draws: a list of three ints, known only so far as every draw keeps it -/
def PoolV (s d c : Int) : Prop := 0 ≤ s ∧ s < 1000000007 ∧ 0 ≤ d ∧ 0 ≤ c
def PoolAt (p : Addr) (h : Heap) : Prop := ∃ (s d c : Int) (its : List Value) (n : Nat), Vals [.int s, .int d, .int c] its ∧ PoolV s d c ∧ h.get? p = some { cls := .type "list", data := .seq its.toArray n }
def poolO (p : Addr) : HO := .ext (PoolAt p)
section
variable {P : Program} {w : World} {H H0 : Hp} {h h' : Heap} {p : Addr}
end
/-- draw(pool, many), by what stands in the list -/
def spDrawC : Sp := fun vs H Q _ => ∃ (p : Addr) (s d c m : Int), vs = [.ref p, .int m] ∧ H p = some (.lst [.int s, .int d, .int c]) ∧ PoolV s d c ∧ 0 < m ∧ m < 2 ^ 200 ∧
  ∀ (r s' d' c' : Int) (H' : Hp), 0 ≤ r → r < m → SameB p H H' → H' p = some (.lst [.int s', .int d', .int c']) → PoolV s' d' c' → Q (.int r) H'
/-- .. by what may be known of it -/
def spDraw : Sp := fun vs H Q _ => ∃ (p : Addr) (m : Int), vs = [.ref p, .int m] ∧ H p = some (poolO p) ∧ 0 < m ∧ m < 2 ^ 200 ∧
  ∀ (r : Int) (H' : Hp), 0 ≤ r → r < m → Same H H' → Q (.int r) H'
def spPoolC : Sp := fun vs H Q _ => ∃ n : Int, vs = [.int n] ∧ ∀ (p : Addr) (s d c : Int) (H' : Hp), H p = none → Same H H' → H' p = some (.lst [.int s, .int d, .int c]) → PoolV s d c → Q (.ref p) H'
def spPool : Sp := fun vs H Q _ => ∃ n : Int, vs = [.int n] ∧ ∀ (p : Addr) (H' : Hp), H p = none → Same H H' → H' p = some (poolO p) → Q (.ref p) H'
section
variable {P : Program} {w : World} {K : PySem.W.Frag} {mg : Str → Option Value} {base : Heap} {k : Nat} {f : Addr} {fd : FuncData} {ps : List Str}
end
section
variable {P : Program} {w : World} {K : PySem.W.Frag} {mg : Str → Option Value} {base : Heap} {k : Nat} {x : Str} {st : Stmt} {ps : List Str}
end
/-! ### loops and comprehensions over what is walked -/
section
variable {J : It} {n : Nat} {G : Hp → Prop} {Y : Nat → Hp → V → Hp → Prop} {g : TG} {tt : TT} {te : TE} {vs : List Nat} {σ : L2.St} {H1 : Hp} {D : Addr} {Q : VK}
end
end TP

namespace TP
open PySem PySem.Spec PyProof.Rows L2
/-! ### loops and comprehensions, in parts -/
def ForOk (J : It) (g : TG) (tb : TS) (D : Ends) (σ : L2.St) (H : Hp) : Prop := ∃ W : Nat → Nat → L2.St → Hp → Prop, (∃ m, W 0 m σ H) ∧ ∀ i m σ H, W i m σ H →
  (J.stop i H ∧ D.nx σ H) ∨ (J.go i H ∧ ∃ N : L2.St → Hp → Prop, (∀ σ' H', N σ' H' → ∃ m', m' < m ∧ W (i + 1) m' σ' H') ∧ ∀ x H', J.yld i H x H' → g x σ H' fun σ2 H2 => tb { D with nx := N, ct := N, bk := D.nx } σ2 H2)
def LcI (H1 : Hp) (D : Addr) (Acc : Nat → List V → Hp → Prop) (i : Nat) (H : Hp) : Prop := ∃ acc, Same H1 H ∧ H D = some (.lst acc) ∧ acc.length ≤ i ∧ Acc i acc H
def LcY (H1 : Hp) (D : Addr) (Acc : Nat → List V → Hp → Prop) (i : Nat) (y : V) (H : Hp) : Prop := ∃ acc, H D = some (.lst acc) ∧ acc.length < sizeLine ∧ LcI H1 D Acc (i + 1) (upd H D (.lst (acc ++ [y])))
def LcOk (J : It) (g : TG) (tt : TT) (te : TE) (vs : List Nat) (σ : L2.St) (H1 : Hp) (D : Addr) (Q : VK) : Prop := ∃ W : Nat → Nat → Hp → Prop, (∃ m, W 0 m (upd H1 D (.lst []))) ∧ ∀ i m H, W i m H →
  (J.stop i H ∧ Q (.ref D) H) ∨ (J.go i H ∧ ∃ Nx : Hp → Prop, (∀ H', Nx H' → ∃ m', m' < m ∧ W (i + 1) m' H') ∧ ∀ x H', J.yld i H x H' → g x (wipe σ vs) H' fun σ2 H2 => wipe σ2 vs = wipe σ vs ∧ tt σ2 H2 fun b H3 =>
    if b = true then te σ2 H3 fun y H4 => ∃ acc, H4 D = some (.lst acc) ∧ acc.length < sizeLine ∧ Nx (upd H4 D (.lst (acc ++ [y]))) else Nx H3)
section
variable {J : It} {n : Nat} {G : Hp → Prop} {Y : Nat → Hp → V → Hp → Prop} {g : TG} {tt : TT} {te : TE} {tb : TS} {De : Ends} {wi : TI} {vs : List Nat} {σ : L2.St} {H H1 H2 : Hp} {D : Addr} {Q : VK} {Acc : Nat → List V → Hp → Prop} {K : PySem.W.Frag}
/-! what is walked -/
def OnT (K : PySem.W.Frag) (R : It → Hp → Prop) (v : V) (H : Hp) : Prop := ∃ a, v = .ref a ∧ (∃ xs, SqT K H a xs) ∧ R (Itt K a) H
def OnL (K : PySem.W.Frag) (R : It → Hp → Prop) (v : V) (H : Hp) : Prop := ∃ a, v = .ref a ∧ (∃ xs, SqL K H a xs) ∧ R (Itl K a) H
def OnS (R : It → Hp → Prop) (v : V) (H : Hp) : Prop := ∃ x, v = .str x ∧ R (Its x) H
def OnR1 (R : It → Hp → Prop) (vs : List V) (H : Hp) : Prop := ∃ j : Int, vs = [.int j] ∧ -(2 ^ 62) ≤ j ∧ j < 2 ^ 62 ∧ R (Itr 0 j.toNat) H
def OnR2 (R : It → Hp → Prop) (vs : List V) (H : Hp) : Prop := ∃ i j : Int, vs = [.int i, .int j] ∧ (-(2 ^ 62) ≤ i ∧ i < 2 ^ 62 ∧ -(2 ^ 62) ≤ j ∧ j < 2 ^ 62) ∧ R (Itr i (j - i).toNat) H
def OnE (K : PySem.W.Frag) (R : It → Hp → Prop) (vs : List V) (H : Hp) : Prop := ∃ a xs, vs = [.ref a] ∧ SqT K H a xs ∧ R (IteT K a) H
variable {R : It → Hp → Prop} {ta : TA} {a : Addr} {xs : List V}
end
/-! ### built-ins, their readings by names -/
def rLenV (K : PySem.W.Frag) : List V → Hp → VK → Prop := fun xs H Q => ∃ x n, xs = [x] ∧ LenV K x H n ∧ Q (.int n) H
def rAbs : List V → Hp → VK → Prop := fun xs H Q => ∃ i, xs = [.int i] ∧ Q (.int (if i < 0 then -i else i)) H
def rMx2 : List V → Hp → VK → Prop := fun xs H Q => ∃ i j, xs = [.int i, .int j] ∧ Q (.int (if j > i then j else i)) H
def rMn2 : List V → Hp → VK → Prop := fun xs H Q => ∃ i j, xs = [.int i, .int j] ∧ Q (.int (if j < i then j else i)) H
def rInt1 : List V → Hp → VK → Prop := fun xs H Q => (∃ i, xs = [.int i] ∧ Q (.int i) H) ∨ ∃ k, xs = [.bl k] ∧ Q (.int (if k then 1 else 0)) H
def rListS (K : PySem.W.Frag) : List V → Hp → VK → Prop := fun xs H Q => ∃ p ys, xs = [.ref p] ∧ (SqL K H p ys ∨ SqT K H p ys) ∧ ∀ l, H l = none → Q (.ref l) (upd H l (.lst ys))
def rTupS (K : PySem.W.Frag) : List V → Hp → VK → Prop := fun xs H Q => ∃ p ys, xs = [.ref p] ∧ ((SqL K H p ys ∧ ∀ l, H l = none → Q (.ref l) (upd H l (.tup ys))) ∨ (SqT K H p ys ∧ Q (.ref p) H))
def rDivW : List V → Hp → VK → Prop := fun xs H Q => ∃ i j, xs = [.int i, .int j] ∧ CDivP i j ∧ ∀ p, H p = none → Q (.ref p) (upd H p (.tup [.int (i / j), .int (i % j)]))
def rInSign : R2 := fun x y H Q => ∃ (c : Nat) (z : Str), x = .str ⟨#[c]⟩ ∧ y = .str z ∧ Q (.bl (decide (c ∈ z.cps.toList))) H
def rNotInSign : R2 := fun x y H Q => ∃ (c : Nat) (z : Str), x = .str ⟨#[c]⟩ ∧ y = .str z ∧ Q (.bl (!decide (c ∈ z.cps.toList))) H
def rIsN : R2 := fun x y H Q => y = .non ∧ Q (.bl (decide (x = .non))) H
def rNotN : R2 := fun x y H Q => y = .non ∧ Q (.bl (!decide (x = .non))) H
def rLtS : R2 := fun x y H Q => ∃ i j, x = .str i ∧ y = .str j ∧ Q (.bl (decide (i.cps.toList < j.cps.toList))) H
def rLeS : R2 := fun x y H Q => ∃ i j, x = .str i ∧ y = .str j ∧ Q (.bl (!decide (j.cps.toList < i.cps.toList))) H
def rAddS : R2 := fun x y H Q => ∃ i j, x = .str i ∧ y = .str j ∧ i.length + j.length ≤ sizeLine ∧ Q (.str (i ++ j)) H
def rMulS : R2 := fun x y H Q => ∃ (z : Str) (n : Nat), x = .str z ∧ y = .int (n : Nat) ∧ z.length * n ≤ 100000 ∧ n ≤ 100000 ∧ Q (.str (repS n z)) H
def rJoin (K : PySem.W.Frag) : V → List V → Hp → VK → Prop := fun x xs H Q => ∃ a p, ∃ ys : List Str, x = .str a ∧ xs = [.ref p] ∧ (SqL K H p (ys.map V.str) ∨ SqT K H p (ys.map V.str)) ∧ (ys.map (·.length)).sum + ys.length * a.length ≤ 16777216 ∧ Q (.str (Txt.join a ys)) H
section
variable {X : Cx}
end
section
variable {σ : L2.St} {H : Hp} {Q : VK} {K : PySem.W.Frag} {v x y : V} {a p : Addr} {xs ys : List V}
end
end TP

namespace TP
open PySem PySem.Spec PyProof.Rows L2
/-- the built-in names that the module leaves free -/
structure Fre (mg : Str → Option Value) : Prop where
  len_ : mg "len" = none
  isinstance_ : mg "isinstance" = none
  range_ : mg "range" = none
  enumerate_ : mg "enumerate" = none
  zip_ : mg "zip" = none
  reversed_ : mg "reversed" = none
  int_ : mg "int" = none
  str_ : mg "str" = none
  bool_ : mg "bool" = none
  tuple_ : mg "tuple" = none
  list_ : mg "list" = none
  dict_ : mg "dict" = none
  bytes_ : mg "bytes" = none
  set_ : mg "set" = none
  sum_ : mg "sum" = none
  all_ : mg "all" = none
  any_ : mg "any" = none
  abs_ : mg "abs" = none
  min_ : mg "min" = none
  max_ : mg "max" = none
  sorted_ : mg "sorted" = none
  repr_ : mg "repr" = none
  divmod_ : mg "divmod" = none
  type_ : mg "type" = none
  map_ : mg "map" = none
  iter_ : mg "iter" = none
  next_ : mg "next" = none
/-! ### small steps -/
section
variable {σ : L2.St} {H : Hp} {Q : VK} {QO : Option Int → Hp → Prop} {tr tk : TA} {te : TE} {D : Ends} {sp : Sp} {E : XK}
def Par2 (k : V → V → Prop) (vs : List V) : Prop := ∃ v w, vs = [v, w] ∧ k v w
def Par3 (k : V → V → V → Prop) (vs : List V) : Prop := ∃ u v w, vs = [u, v, w] ∧ k u v w
def IntC (x : V) (k : Int → Prop) : Prop := ∃ i, x = .int i ∧ k i
def KwC (n m : Nat) (g : {α : Type} → List α → List α → List α) (vs zs : List V) (k : List V → Prop) : Prop := vs.length = n ∧ zs.length = m ∧ k (g vs zs)
end
end TP

namespace TP
open PySem PySem.Spec PyProof.Rows L2
/-! ### kinds of data -/
def wholeD : PyData → Bool
  | .int _ => true
  | _ => false
def isIntD : PyData → Bool
  | .int _ => true
  | .bool _ => true
  | _ => false
def isBoolD : PyData → Bool
  | .bool _ => true
  | _ => false
def isStrD : PyData → Bool
  | .str _ => true
  | _ => false
def isTupD : PyData → Bool
  | .tuple _ => true
  | _ => false
mutual
/-- texts of at most 100000 signs -/
def szD : PyData → Bool
  | .str x => decide (x.length ≤ 100000)
  | .list ds => szDs ds
  | .tuple ds => szDs ds
  | _ => true
def szDs : List PyData → Bool
  | [] => true
  | d :: r => szD d && szDs r
end
def letters : Str := "abcdefghijklmnopqrstuvwxyz"
def isLet (c : Nat) : Bool := decide (97 ≤ c) && decide (c ≤ 122)
def isName (x : Str) : Bool := decide (0 < x.length) && (decide (x.length < 9) && x.cps.toList.all isLet)
def nameD : PyData → Bool
  | .str x => isName x
  | _ => false
def fromD (d : PyData) (j : Int) : Bool := match d with
  | .int i => decide (j ≤ i)
  | _ => false
def runD : PyData → Bool
  | .tuple [a, b] => nameD a && fromD b 1
  | _ => false
/-- the name of a pair -/
def nmD : PyData → Str
  | .tuple (.str x :: _) => x
  | _ => Str.empty
def ltS (x y : Str) : Prop := x.cps.toList < y.cps.toList
instance (x y : Str) : Decidable (ltS x y) := inferInstanceAs (Decidable (x.cps.toList < y.cps.toList))
/-- the element at i is bad: too many, no run, or not behind the one before -/
def badAt (ds : List PyData) (m : Int) (i : Nat) : Bool := decide (m ≤ (i : Int)) || (!runD (ds.getD i .none) || (decide (0 < i) && !decide (ltS (nmD (ds.getD (i - 1) .none)) (nmD (ds.getD i .none)))))
def firstBad (ds : List PyData) (m : Int) : Option Nat := (List.range ds.length).find? (badAt ds m)
def optV : Option Nat → V
  | none => .non
  | some i => .int (i : Nat)
def countsD : PyData → Bool
  | .tuple ds => (firstBad ds 12).isNone
  | _ => false
/-! ### bags: pairs of a name and a number -/
abbrev Bag := List (Str × Int)
def pairD (p : Str × Int) : PyData := .tuple [.str p.1, .int p.2]
def bagD (ps : Bag) : PyData := .tuple (ps.map pairD)
def sumC (ps : Bag) : Int := (ps.map (·.2)).sum
/-- counts: names that ascend, numbers from 1 on -/
structure BagOk (ps : Bag) : Prop where
  asc : ps.Pairwise fun a b => ltS a.1 b.1
  nam : ∀ p ∈ ps, isName p.1 = true
  pos : ∀ p ∈ ps, 1 ≤ p.2
/-! the pairs in the heap -/
section
variable {K : PySem.W.Frag} {H : Hp}
end
theorem flat_bag (ps : Bag) : flatD (bagD ps) = true := by
  unfold bagD flatD
  induction ps with
  | nil => rfl
  | cons p r ih => show (flatD (pairD p) && flatDs (r.map pairD)) = true; rw [ih]; rfl
/-! tables -/
def getT (t : Bag) (n : Str) : Int := ((t.find? fun p => decide (p.1 = n)).map (·.2)).getD 0
def putT (t : Bag) (n : Str) (c : Int) : Bag := if (t.any fun p => decide (p.1 = n)) = true then t.map (fun p => if p.1 = n then (p.1, c) else p) else t ++ [(n, c)]
def addT (t : Bag) (p : Str × Int) : Bag := putT t p.1 (getT t p.1 + p.2)
def tabOf (ps : Bag) : Bag := ps.foldl addT []
def kvOf (t : Bag) : List (Key × V) := t.map fun p => (Sum.inr p.1, V.int p.2)
/-- what a table holds of a name, and what was put in -/
def cntC (ps : Bag) (n : Str) : Int := ((ps.filter fun p => decide (p.1 = n)).map (·.2)).sum
end TP

namespace TP
open PySem PySem.Spec PyProof.Rows L2
/-! ### names that are drawn -/
/-- a text of letters -/
def lets (x : Str) : Prop := ∀ c ∈ x.cps.toList, isLet c = true
def menuW : List Str := ["more", "less", "sum", "few", "many", "gain", "columns", "range", "order", "merge", "a", "b", "c", "x", "y"]
def wordA (b i : Nat) : Str := menuW.getD ((b + 4 * i) % 15) Str.empty
def wordB (b i : Nat) : Str := repS (1 + i % 8) ⟨#[97 + (b + 7 * i) % 26]⟩
def wordC (b : Nat) (l r : List Nat) (i : Nat) : Str := ⟨(l ++ (97 + (b + 5 * i) % 26) :: r).toArray⟩
/-- names that differ -/
structure WordsOk (ws : List Str) (n : Nat) : Prop where
  len : ws.length = n
  nd : ws.Nodup
  nam : ∀ w ∈ ws, isName w = true
/-! ### the order of texts -/
theorem ltS_irrefl (a : Str) : ¬ ltS a a := List.lt_irrefl _
theorem ltS_ne {a b : Str} (h : ltS a b) : a ≠ b := fun e => by subst e; exact ltS_irrefl _ h
end TP

namespace TP
open PySem PySem.Spec PyProof.Rows L2
/-! ### the rules with the written part told -/
section
variable {X : Cx} (K : PySem.W.Frag)
variable {o e a b : Expr} {to te ta tb : TE} {apos cpos pos p tpos : Pos} {es : List Expr} {t : TA} {tg : Expr} {rest : List Expr}
end
/-! ### comprehensions of scalars, with or without a test -/
section
variable {J : It} {n : Nat} {G : Hp → Prop} {Y : Nat → Hp → V → Hp → Prop} {g : TG} {tt : TT} {te : TE} {vs : List Nat} {σ : L2.St} {H1 : Hp} {D : Addr} {Q : VK} {α : Type}
end
/-! ### comprehensions of data -/
section
variable {J : It} {n : Nat} {G : Hp → Prop} {Y : Nat → Hp → V → Hp → Prop} {g : TG} {te : TE} {vs : List Nat} {σ : L2.St} {H1 : Hp} {D : Addr} {Q : VK} {K : PySem.W.Frag}
end
/-! ### what bags show -/
/-- names and numbers that can be shown -/
def BagS (ps : Bag) : Prop := ∀ p ∈ ps, isName p.1 = true ∧ 0 ≤ p.2 ∧ p.2 ≤ 10 ^ 100
theorem BagOk.s {ps : Bag} (h : BagOk ps) (hc : ∀ p ∈ ps, p.2 ≤ 10 ^ 100) : BagS ps := fun p hp => ⟨h.nam p hp, by have := h.pos p hp; omega, hc p hp⟩
/-- the signs of a text, each a text -/
def signs1 (x : Str) : List Str := x.cps.toList.map fun c => ⟨#[c]⟩
/-! ### the end: the law's own function object -/
end TP

namespace TP
open PySem PySem.Spec PyProof.Rows L2
/-! ### t[::c] of a tuple -/
def stepLo (c : Int) (n : Nat) : Int := if c < 0 then (n : Int) - 1 else 0
def stepHi (c : Int) (n : Nat) : Int := if c < 0 then -1 else (n : Int)
def stepIx (c : Int) (n : Nat) : List Nat := (List.range (Builtin.Slice.slicePlaces (stepLo c n) (stepHi c n) c)).map fun (k : Nat) => (stepLo c n + (k : Int) * c).toNat
def stepL {α : Type} (c : Int) (xs : List α) : List α := (stepIx c xs.length).filterMap fun k => xs[k]?
section
variable {prog : Program} {w : World} {A : Around} {E : Value → Shared → Prop} {s : Shared}
end
def tStepT (K : PySem.W.Frag) (c : Int) (te : TE) : TE := fun σ H Q => te σ H fun x H1 => ∃ a xs, x = .ref a ∧ SqT K H1 a xs ∧ (stepL c xs).length ≤ sizeLine ∧ ∀ p, H1 p = none → Q (.ref p) (upd H1 p (.tup (stepL c xs)))
section
variable {X : Cx} {e : Expr} {te : TE} {k : Nat} {p1 p2 p3 pos : Pos} (K : PySem.W.Frag)
end
/-! ### comprehensions of data, with a test -/
section
variable {J : It} {n : Nat} {G : Hp → Prop} {Y : Nat → Hp → V → Hp → Prop} {g : TG} {tt : TT} {te : TE} {vs : List Nat} {σ : L2.St} {H1 : Hp} {D : Addr} {Q : VK} {α : Type}
end
/-! ### the one ascending bag of given counts -/
structure IsCan (f : Str → Int) (ps : Bag) : Prop where
  asc : ps.Pairwise fun a b => ltS a.1 b.1
  pos : ∀ p ∈ ps, 0 < p.2
  cnt : ∀ n, getT ps n = f n
theorem asc_nodup {ps : Bag} (h : ps.Pairwise fun a b => ltS a.1 b.1) : (ps.map (·.1)).Nodup := by
  unfold List.Nodup
  rw [List.pairwise_map]
  exact h.imp fun h => ltS_ne h
/-! ### the different names, in the order in which they come -/
def addN (l : List Str) (n : Str) : List Str := if n ∈ l then l else l ++ [n]
def namesOf (ns : List Str) : List Str := ns.foldl addN []
def kvN (l : List Str) : List (Key × V) := l.map fun n => (Sum.inr n, V.bl true)
theorem addN_len (l : List Str) (n : Str) : (addN l n).length ≤ l.length + 1 ∧ l.length ≤ (addN l n).length := by
  unfold addN
  split <;> simp
theorem addN_mem {l : List Str} {n x : Str} : x ∈ addN l n ↔ x ∈ l ∨ x = n := by
  unfold addN
  split
  · rename_i h
    exact ⟨.inl, fun z => z.elim id fun e => e ▸ h⟩
  · simp
theorem addN_nodup {l : List Str} {n : Str} (h : l.Nodup) : (addN l n).Nodup := by
  unfold addN
  split
  · exact h
  · rename_i hn
    rw [List.nodup_append]
    exact ⟨h, by simp, fun a ha b hb e => by rw [List.mem_singleton] at hb; subst hb; exact hn (e ▸ ha)⟩
theorem namesOf_aux : ∀ (ns acc : List Str), acc.Nodup → (ns.foldl addN acc).Nodup ∧ (∀ x, x ∈ ns.foldl addN acc ↔ x ∈ acc ∨ x ∈ ns) ∧ acc.length ≤ (ns.foldl addN acc).length ∧ (ns.foldl addN acc).length ≤ acc.length + ns.length
  | [], acc, h => ⟨h, by simp, by simp, by simp⟩
  | n :: r, acc, h => by
    obtain ⟨h1, h2, h3, h4⟩ := namesOf_aux r (addN acc n) (addN_nodup h)
    have hl := addN_len acc n
    refine ⟨h1, fun x => ?_, by simp only [List.foldl_cons]; omega, by simp only [List.foldl_cons, List.length_cons]; omega⟩
    rw [List.foldl_cons, h2, addN_mem, List.mem_cons, or_assoc]
theorem namesOf_nodup (ns : List Str) : (namesOf ns).Nodup := (namesOf_aux ns [] List.nodup_nil).1
theorem namesOf_mem {ns : List Str} {x : Str} : x ∈ namesOf ns ↔ x ∈ ns := by have := (namesOf_aux ns [] List.nodup_nil).2.1 x; simpa [namesOf] using this
theorem nodup_sub_len {α : Type} [DecidableEq α] : ∀ {a b : List α}, a.Nodup → (∀ x ∈ a, x ∈ b) → a.length ≤ b.length
  | [], b, _, _ => Nat.zero_le _
  | x :: r, b, nd, h => by
    have nd' := List.nodup_cons.mp nd
    have hx := h x List.mem_cons_self
    have := nodup_sub_len (b := b.erase x) nd'.2 fun y hy => (List.mem_erase_of_ne fun e : y = x => nd'.1 (by rw [← e]; exact hy)).mpr (h y (List.mem_cons_of_mem _ hy))
    rw [List.length_erase_of_mem hx] at this
    have : 0 < b.length := List.length_pos_of_mem hx
    simp only [List.length_cons]; omega
theorem namesOf_take {ns : List Str} {i : Nat} : (namesOf (ns.take i)).length ≤ (namesOf ns).length := nodup_sub_len (namesOf_nodup _) fun x hx => namesOf_mem.mpr (List.mem_of_mem_take (namesOf_mem.mp hx))
/-! ### orders -/
def noOrdAt (ds : List PyData) (i : Nat) : Bool := decide (1000 ≤ i) || (!runD (ds.getD i .none) || decide (12 < (namesOf ((ds.take (i + 1)).map nmD)).length))
def firstNo (ds : List PyData) : Option Nat := (List.range ds.length).find? (noOrdAt ds)
def orderD : PyData → Bool
  | .tuple ds => (firstNo ds).isNone
  | _ => false
structure OrdOk (ps : Bag) : Prop where
  nam : ∀ p ∈ ps, isName p.1 = true
  pos : ∀ p ∈ ps, 1 ≤ p.2
  len : ps.length ≤ 1000
  few : (namesOf (ps.map (·.1))).length ≤ 12
theorem OrdOk.s {ps : Bag} (h : OrdOk ps) (hc : ∀ p ∈ ps, p.2 ≤ 10 ^ 100) : BagS ps := fun p hp => ⟨h.nam p hp, by have := h.pos p hp; omega, hc p hp⟩
end TP

namespace TP
open PySem PySem.Spec PyProof.Rows L2
/-! ### len and sorted of a dict, d[k], the truth of a value, equality of data -/
def rLenD : List V → Hp → VK → Prop := fun xs H Q => ∃ a kvs, xs = [V.ref a] ∧ H a = some (.dK kvs) ∧ Q (.int kvs.length) H
def rSortedDk : List V → Hp → VK → Prop := fun xs H Q => ∃ (a : Addr) (kvs : List (Key × V)) (ks : List Str), xs = [.ref a] ∧ Rd H a (.dK kvs) ∧ kvs.map (·.1) = ks.map Sum.inr ∧ ks.length < 64 ∧
    ∀ ys p, ys.Perm ks → sortedS ys = true → H p = none → Q (.ref p) (upd H p (.lst (ys.map V.str)))
def tTru (K : PySem.W.Frag) (ta : TE) : TT := fun σ H Q => ta σ H fun x H' => ∃ k, TruV K x H' k ∧ Q k H'
def TruC (K : PySem.W.Frag) (x : V) (H : Hp) (k : Bool → Prop) : Prop := ∃ b, TruV K x H b ∧ k b
def DGetC (x y : V) (H : Hp) (Q : VK) : Prop := ∃ a v, x = .ref a ∧ DGet H a y (some v) ∧ Q v H
section
variable {K : PySem.W.Frag} {σ : L2.St} {H : Hp} {Q : VK} {te td ty : TE} {QB : Bool → Hp → Prop} {a : Addr} {xs : List V} {v w : V}
end
/-! ### lists that are the same, item by item -/
def SameV (K : PySem.W.Frag) (H : Hp) (x y : V) : Prop := (x = y ∧ flatB x = true) ∨ ∃ d, Dp K H x d ∧ Dp K H y d ∧ SeqAt.shaped d = true
inductive AllSame (K : PySem.W.Frag) (H : Hp) : List V → List V → Prop
  | nil : AllSame K H [] []
  | cons {x y : V} {xs ys : List V} : SameV K H x y → AllSame K H xs ys → AllSame K H (x :: xs) (y :: ys)
theorem AllSame.len {K : PySem.W.Frag} {H : Hp} : ∀ {xs ys : List V}, AllSame K H xs ys → xs.length = ys.length
  | _, _, .nil => rfl
  | _, _, .cons _ r => by rw [List.length_cons, List.length_cons, r.len]
def rNeL (K : PySem.W.Frag) : R2 := fun x y H Q => ∃ a b xs ys, x = .ref a ∧ y = .ref b ∧ SqL K H a xs ∧ SqL K H b ys ∧ AllSame K H xs ys ∧ Q (.bl false) H
def rEqL (K : PySem.W.Frag) : R2 := fun x y H Q => ∃ a b xs ys, x = .ref a ∧ y = .ref b ∧ SqL K H a xs ∧ SqL K H b ys ∧ AllSame K H xs ys ∧ Q (.bl true) H
section
variable {X : Cx} {pins : List (Addr × Obj)} {σ : L2.St} {H : Hp} {s : Shared}
def rNeE (K : PySem.W.Frag) : R2 := fun x y H Q => ∃ a b xs, x = .ref a ∧ y = .ref b ∧ SqL K H a xs ∧ SqL K H b [] ∧ Q (.bl (!xs.isEmpty)) H
def rEqE (K : PySem.W.Frag) : R2 := fun x y H Q => ∃ a b xs, x = .ref a ∧ y = .ref b ∧ SqL K H a xs ∧ SqL K H b [] ∧ Q (.bl xs.isEmpty) H
end
section
variable {K : PySem.W.Frag} {H : Hp} {Q : VK} {a b : Addr} {xs ys : List V}
end
/-! ### the table in the order of its names -/
def canF (f : Str → Int) (ys : List Str) : Bag := ys.filterMap fun y => if 0 < f y then some (y, f y) else none
def posI (i : Int) : Int := if 0 < i then i else 0
theorem IsCan.ok {f : Str → Int} {ps : Bag} (h : IsCan f ps) (hn : ∀ p ∈ ps, isName p.1 = true) : BagOk ps := ⟨h.asc, hn, fun p hp => by have := h.pos p hp; omega⟩
/-! ### sums and counts -/
theorem cntC_cons (p : Str × Int) (r : Bag) (n : Str) : cntC (p :: r) n = (if p.1 = n then p.2 else 0) + cntC r n := by
  unfold cntC
  by_cases e : p.1 = n
  · rw [List.filter_cons_of_pos (by simpa using e), List.map_cons, List.sum_cons, if_pos e]
  · rw [List.filter_cons_of_neg (by simpa using e), if_neg e]; omega
theorem sumC_cons (p : Str × Int) (r : Bag) : sumC (p :: r) = p.2 + sumC r := by unfold sumC; rw [List.map_cons, List.sum_cons]
/-! ### neighbouring runs of a name joined; the last run stands first -/
def jst (acc : Bag) (p : Str × Int) : Bag := match acc with
  | [] => [p]
  | q :: r => if q.1 = p.1 then (p.1, q.2 + p.2) :: r else p :: q :: r
def jrev (ps : Bag) : Bag := ps.foldl jst []
def joinR (ps : Bag) : Bag := (jrev ps).reverse
def Red : Bag → Prop
  | [] => True
  | p :: r => (∀ q, r.head? = some q → q.1 ≠ p.1) ∧ Red r
theorem jst_cnt (acc : Bag) (p : Str × Int) (n : Str) : cntC (jst acc p) n = cntC acc n + (if p.1 = n then p.2 else 0) := by
  cases acc with
  | nil => show cntC [p] n = _; rw [cntC_cons]; have : cntC [] n = 0 := rfl; omega
  | cons q r =>
    show cntC (if q.1 = p.1 then _ else _) n = _
    split
    · rename_i e
      rw [cntC_cons, cntC_cons]
      show (if p.1 = n then q.2 + p.2 else 0) + _ = _
      rw [e]
      split <;> omega
    · rw [cntC_cons]; omega
theorem jst_sum (acc : Bag) (p : Str × Int) : sumC (jst acc p) = sumC acc + p.2 := by
  cases acc with
  | nil => show sumC [p] = _; rw [sumC_cons]; have : sumC [] = 0 := rfl; omega
  | cons q r =>
    show sumC (if q.1 = p.1 then _ else _) = _
    split
    · rw [sumC_cons, sumC_cons]; show q.2 + p.2 + _ = _; omega
    · rw [sumC_cons]; omega
theorem jrev_aux : ∀ (ps acc : Bag), (∀ n, cntC (ps.foldl jst acc) n = cntC acc n + cntC ps n) ∧ sumC (ps.foldl jst acc) = sumC acc + sumC ps ∧ (ps.foldl jst acc).length ≤ acc.length + ps.length
  | [], acc => ⟨fun n => by have : cntC [] n = 0 := rfl; simp only [List.foldl_nil]; omega, by have : sumC [] = 0 := rfl; simp only [List.foldl_nil]; omega, by simp⟩
  | p :: r, acc => by
    obtain ⟨h1, h2, h3⟩ := jrev_aux r (jst acc p)
    have hl : (jst acc p).length ≤ acc.length + 1 := by
      cases acc with
      | nil => simp [jst]
      | cons q t => show (if q.1 = p.1 then _ else _ : Bag).length ≤ _; split <;> simp
    refine ⟨fun n => ?_, ?_, ?_⟩
    · rw [List.foldl_cons, h1, jst_cnt, cntC_cons]; omega
    · rw [List.foldl_cons, h2, jst_sum, sumC_cons]; omega
    · rw [List.foldl_cons, List.length_cons]; omega
theorem jrev_len (ps : Bag) : (jrev ps).length ≤ ps.length := by have := (jrev_aux ps []).2.2; simpa [jrev] using this
theorem joinR_len (ps : Bag) : (joinR ps).length ≤ ps.length := by unfold joinR; rw [List.length_reverse]; exact jrev_len ps
theorem jrev_mem (ps : Bag) (hp : ∀ p ∈ ps, 1 ≤ p.2) : ∀ q ∈ jrev ps, q.1 ∈ ps.map (·.1) ∧ 1 ≤ q.2 := by
  have : ∀ (ps acc : Bag) (l : List Str), (∀ p ∈ ps, 1 ≤ p.2 ∧ p.1 ∈ l) → (∀ q ∈ acc, q.1 ∈ l ∧ 1 ≤ q.2) → ∀ q ∈ ps.foldl jst acc, q.1 ∈ l ∧ 1 ≤ q.2 := by
    intro ps
    induction ps with
    | nil => intro acc l _ h; exact h
    | cons p r ih =>
      intro acc l h1 h2
      refine ih (jst acc p) l (fun q hq => h1 q (List.mem_cons_of_mem _ hq)) fun q hq => ?_
      have hp := h1 p List.mem_cons_self
      cases acc with
      | nil => rw [show jst [] p = [p] from rfl, List.mem_singleton] at hq; subst hq; exact ⟨hp.2, hp.1⟩
      | cons z t =>
        have hz := h2 z List.mem_cons_self
        have hq' : q ∈ (if z.1 = p.1 then (p.1, z.2 + p.2) :: t else p :: z :: t) := hq
        split at hq'
        · rcases List.mem_cons.mp hq' with rfl | hq'
          · exact ⟨hp.2, by show 1 ≤ z.2 + p.2; omega⟩
          · exact h2 q (List.mem_cons_of_mem _ hq')
        · rcases List.mem_cons.mp hq' with rfl | hq'
          · exact ⟨hp.2, hp.1⟩
          · exact h2 q hq'
  exact this ps [] (ps.map (·.1)) (fun p hpp => ⟨hp p hpp, List.mem_map.mpr ⟨p, hpp, rfl⟩⟩) nofun
theorem OrdOk.join {ps : Bag} (h : OrdOk ps) : OrdOk (joinR ps) := by
  have hm : ∀ q ∈ joinR ps, q.1 ∈ ps.map (·.1) ∧ 1 ≤ q.2 := fun q hq => jrev_mem ps h.pos q (List.mem_reverse.mp hq)
  refine ⟨fun q hq => ?_, fun q hq => (hm q hq).2, Nat.le_trans (joinR_len ps) h.len, Nat.le_trans (nodup_sub_len (namesOf_nodup _) fun x hx => ?_) h.few⟩
  · obtain ⟨p, hp, e⟩ := List.mem_map.mp (hm q hq).1
    rw [← e]; exact h.nam p hp
  · obtain ⟨q, hq, e⟩ := List.mem_map.mp (namesOf_mem.mp hx)
    rw [← e]
    exact namesOf_mem.mpr (hm q hq).1
/-! ### the last item of a list -/
def StepC (K : PySem.W.Frag) (c : Int) (v : V) (H : Hp) (Q : VK) : Prop := ∃ a xs, v = .ref a ∧ SqT K H a xs ∧ (stepL c xs).length ≤ sizeLine ∧ ∀ p, H p = none → Q (.ref p) (upd H p (.tup (stepL c xs)))
end TP

namespace TP
open PySem PySem.Spec PyProof.Rows L2
/-! ### arguments, keywords and defaults, picked by their places -/
def pick {α : Type} (js : List Nat) (l : List α) : List α := js.filterMap fun j => l[j]?
/-- n positional values, keywords ks, nd defaults: js says where each parameter comes from -/
def BindJ (x q : Str) (st : Stmt) (ps : List Str) (nd n : Nat) (ks : List Str) (js : List Nat) : Prop :=
  (nd = 0 ∧ ∀ (kV doc pm : Value) (an : Option Addr) (cdv ct : Value) (us ws : List Value), us.length = n → ws.length = ks.length →
    bindArgs (PySem.W.fnOf x q (defArgs st) (defBody st) (defScope st) .none kV doc pm an cdv ct) ⟨us, ks.zip ws⟩ = pure (ps.zip (pick js (us ++ ws)))) ∨
  (nd ≠ 0 ∧ ∀ (T : Addr) (kV doc pm : Value) (an : Option Addr) (cdv ct : Value) (us its ws : List Value), us.length = n → its.length = nd → ws.length = ks.length →
    ∃ k, bindArgs (PySem.W.fnOf x q (defArgs st) (defBody st) (defScope st) (.ref T) kV doc pm an cdv ct) ⟨us, ks.zip ws⟩ = seqItems? (.ref T) >>= k ∧ k (some its.toArray) = pure (ps.zip (pick js (us ++ ws ++ its))))
/-! ### methods -/
structure DfdM (K : PySem.W.Frag) (C m q : Str) (st : Stmt) (dvs : List V) : Prop where
  ex : ∃ fd, FunD K m q (defArgs st) (defBody st) (defScope st) dvs [] (He.ma K (He.ga K C) m) fd
  mt : Meth K (He.ga K C) m (He.ma K (He.ga K C) m)
structure HasM (P : Program) (w : World) (K : PySem.W.Frag) (mg : Str → Option Value) (base : Heap) (CX : CXT) (k : Nat) (C m q : Str) (st : Stmt) (dvs : List V) (ps : List Str) (sp : Sp) : Prop where
  ex : ∃ fd, FunD K m q (defArgs st) (defBody st) (defScope st) dvs [] (He.ma K (He.ga K C) m) fd ∧ FnG P w K mg base CX k (He.ma K (He.ga K C) m) fd ps sp
  mt : Meth K (He.ga K C) m (He.ma K (He.ga K C) m)
section
variable {P : Program} {w : World} {K : PySem.W.Frag} {mg : Str → Option Value} {base : Heap} {CX : CXT} {k j : Nat} {C m q : Str} {st : Stmt} {dvs : List V} {N ps : List Str} {sp sp' : Sp}
theorem DfdM.has (D : DfdM K C m q st dvs) (S : FnScope N ps (defScope st)) (len : ∀ vs H Q E, sp vs H Q E → vs.length = ps.length)
    (hbody : ∀ (cdv : Value) (A : Around) (outer : List Env) (s : Shared) (H : Hp) (vs : List V) (Q : VK) (E : XK), Room k (A.deeper (envOfC q (defScope st) s.heap.objs.size (He.ma K (He.ga K C) m) cdv)) → (A.deeper (envOfC q (defScope st) s.heap.objs.size (He.ma K (He.ga K C) m) cdv)).guards = some [] → sp vs H Q E →
      ∃ t, PSs (cxOf CX P w K mg base N q (defScope st) (He.ma K (He.ga K C) m) cdv A outer s H E) (defBody st) t ∧ t { nx := fun _ H' => Q .non H', rt := Q } (start N vs) H) :
    HasM P w K mg base CX (k + 1) C m q st dvs ps sp := by
  obtain ⟨fd, F⟩ := D.ex
  exact ⟨⟨fd, F, fnG_of F S len hbody⟩, D.mt⟩
end
/-- a class of the program: its fields fs are no attributes of the class -/
structure ClsF (K : PySem.W.Frag) (mg : Str → Option Value) (C : Str) (fs : List Str) : Prop where
  glo : mg C = some (.ref (He.ga K C))
  cls : Cls K (He.ga K C)
  na : ∀ f ∈ fs, NoAttr K (He.ga K C) f
  mkr : Mk K (He.ga K C) (He.ma K (He.ga K C) "__init__")
  i1 : PySem.W.findIn K (.ref (He.ga K C)) "__class__" = some (some (.builtin "object.__class__"))
  i2 : PySem.W.specialIn K (.builtin "object.__class__") "__get__" = some (some (.builtin "getset_descriptor.__get__"))
  i3 : PySem.W.takesIn K (.builtin "object.__class__") = some true
  i4 : PySem.W.mroIn K (He.ga K C) (.type "object") = some true
  kt : PySem.W.kitOne K (.ref (He.ga K C)) (.ref (He.ga K C)) = some true
  kf : ∀ T ∈ ["NoneType", "bool", "int", "str", "list", "tuple", "dict"], PySem.W.kitOne K (.type T) (.ref (He.ga K C)) = some false
  kb : ∀ T ∈ ["int", "str", "list", "tuple", "dict", "bool"], PySem.W.kitOne K (.ref (He.ga K C)) (.type T) = some false
  ne : PySem.W.findIn K (.ref (He.ga K C)) "__ne__" = some (some (.builtin "object.__ne__"))
def clsB (K : PySem.W.Frag) (C : Str) (fs : List Str) : Bool :=
  (He.Fa.glo C).ok K && ((He.Fa.cls C).ok K && (fs.all (fun f => (He.Fa.noat C f).ok K) && ((He.Fa.mkr C).ok K && (He.eqO (PySem.W.findIn K (.ref (He.ga K C)) "__class__") (some (some (.builtin "object.__class__"))) &&
    (He.eqO (PySem.W.specialIn K (.builtin "object.__class__") "__get__") (some (some (.builtin "getset_descriptor.__get__"))) && (decide (PySem.W.takesIn K (.builtin "object.__class__") = some true) &&
    (decide (PySem.W.mroIn K (He.ga K C) (.type "object") = some true) && (decide (PySem.W.kitOne K (.ref (He.ga K C)) (.ref (He.ga K C)) = some true) &&
    (["NoneType", "bool", "int", "str", "list", "tuple", "dict"].all (fun T => decide (PySem.W.kitOne K (.type T) (.ref (He.ga K C)) = some false)) &&
    (["int", "str", "list", "tuple", "dict", "bool"].all (fun T => decide (PySem.W.kitOne K (.ref (He.ga K C)) (.type T) = some false)) && He.eqO (PySem.W.findIn K (.ref (He.ga K C)) "__ne__") (some (some (.builtin "object.__ne__")))))))))))))
/-- an empty tuple stands at the address -/
def etupB (K : PySem.W.Frag) (a : Addr) : Bool := match K.lookup a with
  | some ⟨.type c, _, .seq its _, _⟩ => decide (c = "tuple") && decide (its = #[])
  | _ => false
/-- the address of the i-th default of a method, if it is an object's -/
def dflA (C m : Str) (i : Nat) (K : PySem.W.Frag) : Addr := match K.lookup (He.ma K (He.ga K C) m) with
  | some ⟨_, _, .func fd, _⟩ => (match fd.defaults with
    | .ref T => (match K.lookup T with
      | some ⟨_, _, .seq its _, _⟩ => (match its[i]? with
        | some (.ref a) => a
        | _ => 0)
      | _ => 0)
    | _ => 0)
  | _ => 0
/-! ### the hook, with further facts of the written part -/
def hookE (n : Nat) (fa : List He.Fa) (fn : List He.DefD) (ex : List (PySem.W.Frag → Bool)) : PySem.W.Hook where
  α := He.AlD × Bool
  obs := fun s => (He.obsDG n fa fn s.heap.get?, (ex.all fun e => e (He.frG s.heap.get? (He.asD s.heap.get? n))))
  val := fun _ => (He.valD fn, true)
  says := fun _ h => ∃ K : PySem.W.Frag, K.In h ∧ He.SaysD fa fn K ∧ (ex.all fun e => e K) = true
  of := fun _ _ e => ⟨_, He.frG_in, congrArg (fun z : He.AlD × Bool => z.1) e, congrArg (fun z : He.AlD × Bool => z.2) e⟩
  keeps := fun _ _ _ ⟨K, hK, c⟩ k => ⟨K, PySem.W.Frag.In.keeps hK k, c⟩
def obsEG (n : Nat) (fa : List He.Fa) (fn : List He.DefD) (ex : List (PySem.W.Frag → Bool)) (g : Addr → Option Obj) : He.AlD × Bool := (He.obsDG n fa fn g, ex.all fun e => e (He.frG g (He.asD g n)))
/-! ### the rules -/
def MtC (C : Addr) (m : Str) (x : V) (H : Hp) (P : Prop) : Prop := ∃ a dx fs, x = .ref a ∧ H a = some (.ins C dx fs) ∧ fs.lookup m = none ∧ P
/-- o.m(..): n positional values, k keywords -/
def tMtN (C : Addr) (m : Str) (sp : Sp) (n k : Nat) (js : List Nat) (dvs : List V) (E : XK) (ta : TE) (t tk : TA) : TE := fun σ H Q => ta σ H fun x H1 => MtC C m x H1 (t σ H1 fun vs H2 => tk σ H2 fun zs H3 => vs.length = n ∧ zs.length = k ∧ sp (pick js ((x :: vs) ++ zs ++ dvs)) H3 Q E)
def MkG (C : Addr) (sp : Sp) (js : List Nat) (dvs vs zs : List V) (H : Hp) (Q : VK) (E : XK) : Prop := ∀ x dx, H x = none → H dx = none → dx ≠ x → sp (pick js ((.ref x :: vs) ++ zs ++ dvs)) (upd (upd H dx (.own x)) x (.ins C dx [])) (fun v H3 => v = .non ∧ Q (.ref x) H3) E
/-- C(..) -/
def tMkN (C : Addr) (sp : Sp) (n k : Nat) (js : List Nat) (dvs : List V) (E : XK) (t tk : TA) : TE := fun σ H Q => t σ H fun vs H1 => tk σ H1 fun zs H2 => vs.length = n ∧ zs.length = k ∧ MkG C sp js dvs vs zs H2 Q E
section
variable {X : Cx} {CX : CXT} {k n : Nat} {f : Addr} {fd : FuncData} {C m q : Str} {st : Stmt} {dvs : List V} {ps ks : List Str} {js : List Nat} {sp : Sp} {E : XK} {p pos apos : Pos} {e o : Expr} {es : List Expr} {kws : List Keyword} {ta : TE} {t tk : TA} {fs : List Str} {g : List Value → List Value → List Value} {gV : List V → List V → List V}
end
/-! ### fields, methods, isinstance in a reading -/
def LenC (n k : Nat) (vs zs : List V) (P : Prop) : Prop := vs.length = n ∧ zs.length = k ∧ P
def FldC (K : PySem.W.Frag) (f : Str) (x : V) (H : Hp) (Q : VK) : Prop := ∃ a C dx fs v, x = .ref a ∧ H a = some (.ins C dx fs) ∧ Cls K C ∧ NoAttr K C f ∧ fs.lookup f = some v ∧ Q v H
def SetC (K : PySem.W.Frag) (f : Str) (x y : V) (H : Hp) (k : Hp → Prop) : Prop := ∃ a C dx fs, x = .ref a ∧ H a = some (.ins C dx fs) ∧ Cls K C ∧ NoAttr K C f ∧ fs.length < 1000 ∧ k (upd H a (.ins C dx (putF f y fs)))
section
variable {K : PySem.W.Frag} {mg : Str → Option Value} {C f m : Str} {fs : List Str} {σ : L2.St} {H : Hp} {Q : VK} {ta tv : TE} {t tk : TA} {a dx : Addr} {fl : List (Str × V)} {v y : V} {De : Ends}
end
end TP

namespace TP
open PySem PySem.Spec PyProof.Rows L2
/-! ### the least number -/
def minL : List Int → Int
  | [] => 0
  | [a] => a
  | a :: b :: r => if a ≤ minL (b :: r) then a else minL (b :: r)
/-! ### dicts: membership, reading while locked, copying -/
def DInC (x y : V) (H : Hp) (k : Bool → Prop) : Prop := ∃ a o, x = .ref a ∧ DGet H a y o ∧ k o.isSome
def rDictD : List V → Hp → VK → Prop := fun xs H Q => ∃ (a : Addr) (kvs : List (Key × V)), xs = [.ref a] ∧ Rd H a (.dK kvs) ∧ ∀ p, H p = none → Q (.ref p) (upd H p (.dK kvs))
def OnK (R : It → Hp → Prop) (x : V) (H : Hp) : Prop := ∃ d o, x = .ref d ∧ ((∃ kvs, H d = some (.frz o (.dK kvs)) ∧ R (Itk d o kvs) H) ∨ ∃ kvs, H d = some (.frz o (.dT kvs)) ∧ R (Itkt d o kvs) H)
def DcOk (J : It) (g : TG) (tt : TT) (tk tv : TE) (vs : List Nat) (σ : L2.St) (H1 : Hp) (D : Addr) (Q : VK) : Prop := ∃ W : Nat → Nat → Hp → Prop, (∃ m, W 0 m (upd H1 D (.dK []))) ∧ ∀ i m H, W i m H →
  (J.stop i H ∧ Q (.ref D) H) ∨ (J.go i H ∧ ∃ Nx : Hp → Prop, (∀ H', Nx H' → ∃ m', m' < m ∧ W (i + 1) m' H') ∧ ∀ x H', J.yld i H x H' → g x (wipe σ vs) H' fun σ2 H2 => wipe σ2 vs = wipe σ vs ∧ tt σ2 H2 fun b H3 =>
    if b = true then tk σ2 H3 fun y H4 => tv σ2 H4 fun z H5 => ∃ kvs k, y = kV k ∧ H5 D = some (.dK kvs) ∧ kvs.length < sizeLine ∧ Nx (upd H5 D (.dK (putK kvs k z))) else Nx H3)
def WhC (m : Nat) (Pv : Nat → L2.St → Hp → Prop) (tb : TS) (De : Ends) (σ : L2.St) (H : Hp) : Prop := ∃ N : L2.St → Hp → Prop, (∀ σ' H', N σ' H' → ∃ m', m' < m ∧ Pv m' σ' H') ∧ tb { De with nx := N, ct := N, bk := De.nx } σ H
section
variable {K : PySem.W.Frag} {σ : L2.St} {H H1 : Hp} {Q : VK} {te td ty tx : TE} {a d : Addr} {kvs : List (Key × V)} {v : V} {R : It → Hp → Prop} {wi : TI} {g : TG} {tt : TT} {tk tv : TE} {vs : List Nat} {t : TE} {ts tb : TS} {De : Ends} {od : Obj} {D : Addr} {c : TT}
end
/-! ### tables: names once each, numbers from 1 on -/
abbrev keys (t : Bag) : List Str := t.map (·.1)
structure TabOk (t : Bag) : Prop where
  nd : (keys t).Nodup
  pos : ∀ p ∈ t, 1 ≤ p.2
theorem BagOk.tab {ps : Bag} (h : BagOk ps) : TabOk ps := ⟨asc_nodup h.asc, h.pos⟩
/-! what putting does -/
theorem put_keys (t : Bag) (n : Str) (c : Int) : keys (putT t n c) = addN (keys t) n := by
  unfold putT addN keys
  have e : (t.any fun q => decide (q.1 = n)) = decide (n ∈ t.map (·.1)) := by
    by_cases h : n ∈ t.map (·.1)
    · rw [decide_eq_true h, List.any_eq_true]
      obtain ⟨q, hq, e⟩ := List.mem_map.mp h
      exact ⟨q, hq, decide_eq_true e⟩
    · rw [decide_eq_false h, Bool.eq_false_iff]
      intro z
      obtain ⟨q, hq, e⟩ := List.any_eq_true.mp z
      exact h (List.mem_map.mpr ⟨q, hq, of_decide_eq_true e⟩)
  rw [e]
  by_cases h : n ∈ t.map (·.1)
  · rw [if_pos (decide_eq_true h), if_pos h, List.map_map]
    refine List.map_congr_left fun q _ => ?_
    by_cases z : q.1 = n
    · simp [z]
    · simp [z]
  · rw [if_neg (by rw [decide_eq_false h]; exact Bool.false_ne_true), if_neg h, List.map_append]; rfl
theorem put_mem {t : Bag} {n : Str} {c : Int} {p : Str × Int} (h : p ∈ putT t n c) : p ∈ t ∨ p = (n, c) := by
  unfold putT at h
  split at h
  · obtain ⟨q, hq, e⟩ := List.mem_map.mp h
    by_cases z : q.1 = n
    · rw [if_pos z] at e; right; rw [← e, z]
    · rw [if_neg z] at e; left; rw [← e]; exact hq
  · rcases List.mem_append.mp h with h | h
    · exact .inl h
    · exact .inr (List.mem_singleton.mp h)
theorem TabOk.put {t : Bag} (h : TabOk t) {n : Str} {c : Int} (hc : 1 ≤ c) : TabOk (putT t n c) := by
  refine ⟨by rw [put_keys]; exact addN_nodup h.nd, fun p hp => ?_⟩
  rcases put_mem hp with h1 | h1
  · exact h.pos p h1
  · rw [h1]; exact hc
/-! ### every number lowered by s, what is not above s left out -/
def lowT (t : Bag) (s : Int) : Bag := t.filterMap fun p => if s < p.2 then some (p.1, p.2 - s) else none
theorem lowT_cons (p : Str × Int) (r : Bag) (s : Int) : lowT (p :: r) s = (if s < p.2 then [(p.1, p.2 - s)] else []) ++ lowT r s := by
  unfold lowT
  rw [List.filterMap_cons]
  by_cases z : s < p.2
  · rw [if_pos z, if_pos z]; rfl
  · rw [if_neg z, if_neg z]; rfl
theorem lowT_mem {t : Bag} {s : Int} {p : Str × Int} (h : p ∈ lowT t s) : (p.1, p.2 + s) ∈ t ∧ 0 < p.2 := by
  unfold lowT at h
  obtain ⟨q, hq, e⟩ := List.mem_filterMap.mp h
  by_cases z : s < q.2
  · rw [if_pos z] at e
    cases e
    have : (q.1, q.2 - s + s) = q := Prod.ext rfl (by show q.2 - s + s = q.2; omega)
    exact ⟨by rw [this]; exact hq, by show 0 < q.2 - s; omega⟩
  · rw [if_neg z] at e; cases e
theorem lowT_keys {t : Bag} {s : Int} {n : Str} (h : n ∈ keys (lowT t s)) : n ∈ keys t := by
  obtain ⟨p, hp, rfl⟩ := List.mem_map.mp h
  exact List.mem_map.mpr ⟨_, (lowT_mem hp).1, rfl⟩
theorem lowT_nodup : ∀ {t : Bag} {s : Int}, (keys t).Nodup → (keys (lowT t s)).Nodup
  | [], _, h => h
  | p :: r, s, h => by
    have h' := List.nodup_cons.mp (show (p.1 :: keys r).Nodup from h)
    rw [lowT_cons]
    have ih := lowT_nodup (s := s) h'.2
    split
    · exact List.nodup_cons.mpr ⟨fun z => h'.1 (lowT_keys z), ih⟩
    · exact ih
theorem TabOk.low {t : Bag} (h : TabOk t) (s : Int) : TabOk (lowT t s) := ⟨lowT_nodup h.nd, fun p hp => by have := (lowT_mem hp).2; omega⟩
def minV (t : Bag) : Int := minL (t.map (·.2))
/-! ### m arrivals of a name at a table of at most c names -/
def arrT (c : Int) (t : Bag) (n : Str) (m : Int) : Bag × Int :=
  if n ∈ keys t ∨ (t.length : Int) ≠ c then (putT t n (getT t n + m), 0)
  else if m ≤ minV t then (lowT t m, m) else (putT (lowT t (minV t)) n (m - minV t), minV t)
structure ArrOk (c : Int) (t : Bag) : Prop where
  tab : TabOk t
  len : (t.length : Int) ≤ c
  cap : 1 ≤ c
theorem ArrOk.ne {c : Int} {t : Bag} (h : ArrOk c t) (e : (t.length : Int) = c) : t ≠ [] := by
  intro z
  have := h.cap
  rw [z] at e
  simp at e
  omega
end TP

namespace TP
open PySem PySem.Spec PyProof.Rows L2
/-! ### summaries -/
def betD (d : PyData) (i j : Int) : Bool := match d with
  | .int n => decide (i ≤ n) && decide (n ≤ j)
  | _ => false
abbrev sumF : List Str := ["capacity", "counts", "__bool__"]
structure SumV (c : Int) (ps : Bag) : Prop where
  c1 : 1 ≤ c
  c8 : c ≤ 8
  ok : BagOk ps
  len : (ps.length : Int) ≤ c
def SumO (K : PySem.W.Frag) (H : Hp) (v : V) (c : Int) (ps : Bag) : Prop := ∃ a dx b, v = .ref a ∧ H a = some (.ins (He.ga K "Summary") dx [("capacity", .int c), ("counts", b)]) ∧ Dp K H b (bagD ps)
def spInit (K : PySem.W.Frag) : Sp := fun vs H Q _ => ∃ (x dx : Addr) (c : Int) (ps : Bag) (b : V), vs = [.ref x, .int c, b] ∧ H x = some (.ins (He.ga K "Summary") dx []) ∧ Dp K H b (bagD ps) ∧ SumV c ps ∧
  ∀ H', SameB x H H' → H' x = some (.ins (He.ga K "Summary") dx [("capacity", .int c), ("counts", b)]) → Q .non H'
section
variable {K : PySem.W.Frag} {mg : Str → Option Value} {H H' : Hp} {Q : VK} {v : V} {c : Int} {ps : Bag}
theorem sum_same (s : Same H H') (h : SumO K H v c ps) : SumO K H' v c ps := by
  obtain ⟨a, dx, b, rfl, h1, h2⟩ := h
  exact ⟨a, dx, b, rfl, s _ _ h1, dp_same s h2⟩
end
/-! ### several arrivals, one behind another -/
def playT (c : Int) (t : Bag) (rs : Bag) : Bag × Int := rs.foldl (fun z r => ((arrT c z.1 r.1 r.2).1, z.2 + (arrT c z.1 r.1 r.2).2)) (t, 0)
def playF (c : Int) (z : Bag × Int) (rs : Bag) : Bag × Int := rs.foldl (fun z r => ((arrT c z.1 r.1 r.2).1, z.2 + (arrT c z.1 r.1 r.2).2)) z
/-! ### what is shown of a summary -/
theorem WordsOk.take {ws : List Str} {n : Nat} (h : WordsOk ws n) (k : Nat) : WordsOk (ws.take k) (ws.take k).length := ⟨rfl, h.nd.sublist (List.take_sublist k ws), fun w hw => h.nam w (List.mem_of_mem_take hw)⟩
theorem WordsOk.drop {ws : List Str} {n : Nat} (h : WordsOk ws n) (k : Nat) : WordsOk (ws.drop k) (ws.drop k).length := ⟨rfl, h.nd.sublist (List.drop_sublist k ws), fun w hw => h.nam w (List.mem_of_mem_drop hw)⟩
/-! ### slices of tuples of data -/
def cutL {α : Type} (xs : List α) (lo hi : Option Int) : List α := (xs.drop (HT.sIx xs.length 0 lo)).take (HT.sIx xs.length xs.length hi - HT.sIx xs.length 0 lo)
theorem OrdOk.take {rs : Bag} (h : OrdOk rs) (k : Nat) : OrdOk (rs.take k) := ⟨fun p hp => h.nam p (List.mem_of_mem_take hp), fun p hp => h.pos p (List.mem_of_mem_take hp), by have := h.len; rw [List.length_take]; omega,
  Nat.le_trans (by rw [List.map_take]; exact namesOf_take) h.few⟩
theorem OrdOk.drop {rs : Bag} (h : OrdOk rs) (k : Nat) : OrdOk (rs.drop k) := ⟨fun p hp => h.nam p (List.mem_of_mem_drop hp), fun p hp => h.pos p (List.mem_of_mem_drop hp), by have := h.len; rw [List.length_drop]; omega,
  Nat.le_trans (nodup_sub_len (namesOf_nodup _) fun x hx => by
    obtain ⟨p, hp, e⟩ := List.mem_map.mp (namesOf_mem.mp hx)
    exact namesOf_mem.mpr (List.mem_map.mpr ⟨p, List.mem_of_mem_drop hp, e⟩)) h.few⟩
theorem BagOk.take {ps : Bag} (h : BagOk ps) (k : Nat) : BagOk (ps.take k) := ⟨h.asc.sublist (List.take_sublist k ps), fun p hp => h.nam p (List.mem_of_mem_take hp), fun p hp => h.pos p (List.mem_of_mem_take hp)⟩
theorem BagOk.drop {ps : Bag} (h : BagOk ps) (k : Nat) : BagOk (ps.drop k) := ⟨h.asc.sublist (List.drop_sublist k ps), fun p hp => h.nam p (List.mem_of_mem_drop hp), fun p hp => h.pos p (List.mem_of_mem_drop hp)⟩
/-! ### a tuple times a number -/
end TP

namespace TP
open PySem PySem.Spec PyProof.Rows L2
/-! ### sorted(.., reverse=True) of numbers -/
section
variable {K : PySem.W.Frag} {σ : L2.St} {H : Hp} {Q : VK} {t tk : TA} {a : Addr}
end
/-! ### the number at place c of the ranks -/
def CutR (t : Bag) (c : Int) (x : Int) : Prop := ∃ ns : List Int, ns.Perm (t.map (·.2)) ∧ ns.Pairwise (· ≥ ·) ∧ x = if c < (ns.length : Int) then ns.getD c.toNat 0 else 0
/-! ### tables of several bags -/
/-- two bags merged: what is above the rank's number, lowered by it -/
def MergeR (c : Int) (ps qs r : Bag) : Prop := ∃ x, CutR (tabOf (ps ++ qs)) c x ∧ IsCan (fun n => posI (cntC (ps ++ qs) n - x)) r
/-- every number less x -/
def subT (t : Bag) (x : Int) : Bag := t.map fun p => (p.1, p.2 - x)
end TP

namespace TP
open PySem PySem.Spec PyProof.Rows L2
/-! ### a + b arrivals of a name are a and then b -/
/-! ### one by one -/
def stepN (c : Int) (z : Bag × Int) (n : Str) : Bag × Int := ((arrT c z.1 n 1).1, z.2 + (arrT c z.1 n 1).2)
def unitsT (c : Int) (t : Bag) (ns : List Str) : Bag × Int := ns.foldl (stepN c) (t, 0)
/-- what one more arrival, somewhere ahead, has changed -/
inductive Late (c : Int) (t : Bag) (l : Int) (t' : Bag) (l' : Int) : Prop
  | more (k : Str) (h : ∀ n, getT t' n = getT t n + if n = k then 1 else 0) (e : l' = l) : Late c t l t' l'
  | less (f : (t.length : Int) = c) (h : ∀ n, getT t' n = posI (getT t n - 1)) (e : l' = l + 1) : Late c t l t' l'
end TP

namespace TP
open PySem PySem.Spec PyProof.Rows L2
/-! ### dict(..) of a list of pairs -/
def rDictP (K : PySem.W.Frag) : List V → Hp → VK → Prop := fun xs H Q => ∃ (a : Addr) (ps : List Addr) (kvs : List (Key × V)), xs = [.ref a] ∧ SqL K H a (ps.map V.ref) ∧ Paired (fun p kv => SqT K H p [kV kv.1, kv.2]) ps kvs ∧
    ∀ p, H p = none → Q (.ref p) (upd H p (.dK (mergeK [] kvs)))
end TP

namespace TP
open PySem PySem.Spec PyProof.Rows L2
/-! ### tuples alone are as they were -/
def SameU (H H' : Hp) : Prop := ∀ a o, H a = some o → ((∃ xs, o = .tup xs) ∨ ∃ ob xs, o = .frz ob (.tup xs)) → H' a = some o
theorem SameU.sqt {K : PySem.W.Frag} {H H' : Hp} {a : Addr} {xs : List V} (s : SameU H H') (h : SqT K H a xs) : SqT K H' a xs := by
  rcases h with (h | ⟨o, h⟩) | h
  · exact .inl (.inl (s _ _ h (.inl ⟨_, rfl⟩)))
  · exact .inl (.inr ⟨o, s _ _ h (.inr ⟨_, _, rfl⟩)⟩)
  · exact .inr h
mutual
theorem dp_flatU {K : PySem.W.Frag} {H H' : Hp} (s : SameU H H') : ∀ {v : V} {d : PyData}, Dp K H v d → flatD d = true → Dp K H' v d
  | _, _, .non, _ => .non
  | _, _, .bl b, _ => .bl b
  | _, _, .int i, _ => .int i
  | _, _, .str x, _ => .str x
  | _, _, .lst h r, f => by simp [flatD] at f
  | _, _, .tup h r, f => .tup (s.sqt h) (dps_flatU s r (by simpa [flatD] using f))
theorem dps_flatU {K : PySem.W.Frag} {H H' : Hp} (s : SameU H H') : ∀ {vs : List V} {ds : List PyData}, DpAll K H vs ds → flatDs ds = true → DpAll K H' vs ds
  | _, _, .nil, _ => .nil
  | _, _, .cons h r, f => by
    have f2 := Bool.and_eq_true_iff.mp (show (flatD _ && flatDs _) = true from f)
    exact .cons (dp_flatU s h f2.1) (dps_flatU s r f2.2)
end
theorem SameU.trans {H H1 H2 : Hp} (a : SameU H H1) (b : SameU H1 H2) : SameU H H2 := fun c o h n => b c o (a c o h n) n
/-! ### small things -/
section
variable {K : PySem.W.Frag} {H : Hp} {Q : VK} {a l : Addr} {x : Str} {ws : List Str}
end
/-! ### data that can be compared -/
/-! ### names of tables -/
end TP

namespace TP
open PySem PySem.Spec PyProof.Rows L2
/-! ### special methods of a class of the program: len, repr, str, bool, == -/
section
variable {X : Cx} {CX : CXT} {k n : Nat} {f : Addr} {fd : FuncData} {C m q : Str} {st : Stmt} {ps : List Str} {js : List Nat} {sp : Sp} {E : XK} {fs : List Str} {g : List Value → List Value → List Value} {gV : List V → List V → List V}
def rLenO (C : Addr) (sp : Sp) (js : List Nat) (E : XK) : List V → Hp → VK → Prop := fun xs H Q => ∃ a dx fl, xs = [.ref a] ∧ H a = some (.ins C dx fl) ∧ sp (pick js ([.ref a] ++ [] ++ [])) H (fun v H' => ∃ n : Int, v = .int n ∧ 0 ≤ n ∧ n < 2 ^ 63 ∧ Q (.int n) H') E
def rStrO (C : Addr) (sp : Sp) (js : List Nat) (E : XK) : List V → Hp → VK → Prop := fun xs H Q => ∃ a dx fl, xs = [.ref a] ∧ H a = some (.ins C dx fl) ∧ sp (pick js ([.ref a] ++ [] ++ [])) H (fun v H' => ∃ y : Str, v = .str y ∧ Q (.str y) H') E
def rBoolO (C : Addr) (sp : Sp) (js : List Nat) (E : XK) : List V → Hp → VK → Prop := fun xs H Q => ∃ a dx fl, xs = [.ref a] ∧ H a = some (.ins C dx fl) ∧ sp (pick js ([.ref a] ++ [] ++ [])) H (fun v H' => ∃ n : Int, v = .int n ∧ 0 ≤ n ∧ n < 2 ^ 63 ∧ Q (.bl (n != 0)) H') E
end
/-! truth by a class's __len__ -/
section
variable {prog : Program} {w : World} {A : Around} {E : Value → Shared → Prop} {s : Shared} {K : PySem.W.Frag} {x C f : Addr} {ox : Obj} {od : Option Obj}
end
section
variable {X : Cx} {CX : CXT} {k n : Nat} {f : Addr} {fd : FuncData} {C m q : Str} {st : Stmt} {ps : List Str} {js : List Nat} {sp : Sp} {E : XK}
/-! == -/
def rEqO (C : Addr) (sp : Sp) (js : List Nat) (E : XK) : R2 := fun x y H Q => ∃ a b dx dy fl gl, x = .ref a ∧ y = .ref b ∧ H a = some (.ins C dx fl) ∧ H b = some (.ins C dy gl) ∧ sp (pick js ([.ref a, .ref b] ++ [] ++ [])) H (fun v H' => ∃ c : Bool, v = .bl c ∧ Q (.bl c) H') E
end
section
variable {X : Cx} {CX : CXT} {k n : Nat} {C q : Str} {st : Stmt} {ps : List Str} {js : List Nat} {sp : Sp} {E : XK} {fs : List Str} (K : PySem.W.Frag)
end
section
variable {K : PySem.W.Frag} {H : Hp} {Q : VK} {v w : V} {c d : Int} {ps qs : Bag} {sp : Sp} {js : List Nat} {E : XK}
end
end TP

namespace TP
open PySem PySem.Spec PyProof.Rows L2
/-! ### what a name loses -/
def sgnB (s : Int) (ps : Bag) : Bag := ps.map fun p => (p.1, s * p.2)
/-! ### what merging takes away -/
end TP

namespace TP
open PySem PySem.Spec PyProof.Rows L2
/-! ### texts of counts -/
def intS (i : Int) : Str := Str.ofString (toString i)
def ptS (p : Str × Int) : Str := p.1 ++ (":" : Str) ++ intS p.2
def cText (ps : Bag) : Str := if ps = [] then "-" else Txt.join " " (ps.map ptS)
/-! readings of texts -/
def FmtC (x : V) (H : Hp) (Q : VK) : Prop := (∃ y : Str, x = .str y ∧ y.length ≤ sizeLine ∧ Q (.str y) H) ∨ ∃ i : Int, x = .int i ∧ i.natAbs.log2 < 1920 ∧ Q (.str (toString i)) H
def JsC (ts : List TE) (acc : Str) (σ : L2.St) (Q : Str → Hp → Prop) (x : V) (H : Hp) : Prop := ∃ y : Str, x = .str y ∧ (acc ++ y).length ≤ sizeLine ∧ tJs ts (acc ++ y) σ H Q
def tJoined (ts : List TE) : TE := fun σ H Q => tJs ts Str.empty σ H fun out H1 => Q (.str out) H1
def rStrI : List V → Hp → VK → Prop := fun xs H Q => ∃ i, xs = [.int i] ∧ i.natAbs.log2 < 1920 ∧ Q (.str (toString i)) H
def rStrS : List V → Hp → VK → Prop := fun xs H Q => ∃ a, xs = [.str a] ∧ Q (.str a) H
def OrC (K : PySem.W.Frag) (tb : TE) (σ : L2.St) (Q : VK) (x : V) (H : Hp) : Prop := ∃ k, TruV K x H k ∧ if k = true then Q x H else tb σ H Q
def AndC (K : PySem.W.Frag) (tb : TE) (σ : L2.St) (Q : VK) (x : V) (H : Hp) : Prop := ∃ k, TruV K x H k ∧ if k = true then tb σ H Q else Q x H
section
variable {K : PySem.W.Frag} {σ : L2.St} {H : Hp} {Q : VK} {QS : Str → Hp → Prop} {te ta tb : TE} {ts : List TE} {acc y : Str} {i : Int}
end
/-! ### bags that are compared -/
section
variable {K : PySem.W.Frag} {H : Hp} {Q : VK} {v w : V} {ps qs : Bag}
end
end TP

namespace TP
open PySem PySem.Spec PyProof.Rows L2
/-! ### dicts that are compared -/
def rNeDt : R2 := fun x y H Q => ∃ a b s t, x = .ref a ∧ y = .ref b ∧ H a = some (.dK (kvOf s)) ∧ H b = some (.dK (kvOf t)) ∧ TabOk s ∧ s.Perm t ∧ Q (.bl false) H
end TP

namespace TP
open PySem PySem.Spec PyProof.Rows L2
/-! ### sorted(..) of pairs of a name and a number -/
def PairAt (h : Heap) (v : Value) (y : Str) (i : Int) : Prop := ∃ a t u o n, v = Value.ref a ∧ h.get? a = some o ∧ o.cls = .type "tuple" ∧ o.data = .seq #[Value.str y t, Value.int i u] n
def nmAt (h : Heap) (v : Value) : Str := match v with
  | .ref a => match h.get? a with
    | some o => match o.data with
      | .seq its _ => match its[0]? with
        | some (Value.str y _) => y
        | _ => Str.empty
      | _ => Str.empty
    | none => Str.empty
  | _ => Str.empty
theorem PairAt.nm {h : Heap} {v : Value} {y : Str} {i : Int} (x : PairAt h v y i) : nmAt h v = y := by
  obtain ⟨a, t, u, o, n, rfl, ho, hc, hd⟩ := x
  unfold nmAt
  simp only [ho, hd]
  rfl
theorem PairAt.keeps {h h' : Heap} {v : Value} {y : Str} {i : Int} (x : PairAt h v y i) (k : ∀ b o, h.get? b = some o → o.cls = .type "tuple" → h'.get? b = some o) : PairAt h' v y i := by
  obtain ⟨a, t, u, o, n, rfl, ho, hc, hd⟩ := x
  exact ⟨a, t, u, o, n, rfl, k a o ho hc, hc, hd⟩
section
variable {prog : Program} {w : World} {A : Around} {E : Value → Shared → Prop} {s : Shared}
end
/-! the rank of a name among names -/
def rankS (l : List Str) (y : Str) : Int := ((l.filter fun x => decide (ltS x y)).length : Nat)
def rSortedB (K : PySem.W.Frag) : List V → Hp → VK → Prop := fun vs H Q => ∃ (a : Addr) (xs : List V) (ps : Bag), vs = [V.ref a] ∧ SqL K H a xs ∧ DpAll K H xs (ps.map pairD) ∧ (keys ps).Nodup ∧ ps.length < 64 ∧
  ∀ (ys : List V) (qs : Bag) (p : Addr), qs.Perm ps → (qs.Pairwise fun a b => ltS a.1 b.1) → DpAll K H ys (qs.map pairD) → H p = none → Q (.ref p) (upd H p (.lst ys))
section
variable {X : Cx}
end
end TP

namespace TP
open PySem PySem.Spec PyProof.Rows L2
/-! ### a list taken apart -/
/-! ### data by names -/
/-- a table in the order of its names, zeros too -/
def tabF (t : Bag) (ys : List Str) : Bag := ys.map fun y => (y, getT t y)
/-! ### true counts that fit -/
structure FitV (c : Int) (ps : Bag) (d : Int) (fs : Bag) : Prop where
  ok : BagOk fs
  len : fs.length ≤ 12
  low : ∀ n, getT ps n ≤ getT fs n
  hi : ∀ n, getT fs n ≤ getT ps n + d
  sum : sumC fs = sumC ps + d * (c + 1)
end TP

namespace TP
open PySem PySem.Spec PyProof.Rows L2
/-! ### == and != of an object and any value -/
section
variable {prog : Program} {w : World} {A : Around} {E : Value → Shared → Prop} {s : Shared} {K : PySem.W.Frag} {x C f : Addr} {ox : Obj} {od : Option Obj} {b tb : Value}
end
def rCmpO (K : PySem.W.Frag) (neg : Bool) (C : Addr) (sp : Sp) (js : List Nat) (E : XK) : R2 := fun x y H Q => ∃ a dx fl t, x = .ref a ∧ H a = some (.ins C dx fl) ∧ TyX K H y t ∧ (t = .ref C ∨ PySem.W.kitOne K t (.ref C) = some false) ∧
  sp (pick js ([x, y] ++ [] ++ [])) H (fun v H' => ∃ c : Bool, v = .bl c ∧ Q (.bl (if neg then !c else c)) H') E
section
variable {X : Cx} {CX : CXT} {k n : Nat} {C q : Str} {st : Stmt} {ps : List Str} {js : List Nat} {sp : Sp} {E : XK} {fs : List Str} (K : PySem.W.Frag)
end
section
variable {K : PySem.W.Frag} {mg : Str → Option Value} {H : Hp} {Q : VK} {v w : V} {c d : Int} {ps qs : Bag} {sp : Sp} {js : List Nat} {E : XK} {neg : Bool}
end
end TP

namespace TP
open PySem PySem.Spec PyProof.Rows L2
/-! ### the shown text of a summary's attributes is one to one -/
section
open TL
def encP (p : Str × Int) : List Nat := [40, 39] ++ (tl p.1 ++ 39 :: ([44, 32] ++ (numL p.2.toNat ++ 41 :: [])))
def contP : Bag → List Nat
  | [] => []
  | p :: r => [44, 32] ++ (encP p ++ contP r)
def bodyP : Bag → List Nat
  | [] => []
  | p :: r => encP p ++ contP r
def tailP (n : Nat) : List Nat := if n = 1 then [44, 41] else [41]
end
/-! ### all that a summary tells of itself, shown -/
def okS (x : Str) : Prop := ∀ c ∈ x.cps.toList, c < 16 ^ 8
def rText (c : Int) (ps : Bag) : Str := ("Summary(" : Str) ++ intS c ++ (", '" : Str) ++ cText ps ++ ("')" : Str)
def shA (c : Int) (ps : Bag) : List PyData := [.int c, bagD ps, .int (ps.length : Nat), .bool (((ps.length : Nat) : Int) != 0), .int (sumC ps), .bool (decide ((ps.length : Int) = c)), .int (getT ps "a")]
def shB (c : Int) (ps : Bag) : List PyData := [.str (cText ps), .str (rText c ps), .bool true]
def shD (c : Int) (ps : Bag) : PyData := .list (shA c ps ++ shB c ps)
/-! ### lists of summaries -/
theorem sum_t {K : PySem.W.Frag} {H H' : Hp} {v : V} {c : Int} {ps : Bag} (s : SameT H H') (h : SumO K H v c ps) : SumO K H' v c ps := by
  obtain ⟨a, dx, b, rfl, h1, h2⟩ := h
  exact ⟨a, dx, b, rfl, s _ _ h1 (fun _ => nofun) (fun _ => nofun), dp_flat s h2 (flat_bag ps)⟩
def Sums (K : PySem.W.Frag) (H : Hp) (lo hi B : Int) (ms : List V) : Prop := ∀ y ∈ ms, ∃ d qs, SumO K H y d qs ∧ SumV d qs ∧ lo ≤ d ∧ d ≤ hi ∧ sumC qs ≤ B
section
variable {K : PySem.W.Frag} {H H' : Hp} {lo hi B : Int} {ms : List V}
theorem Sums.same (s : Same H H') (h : Sums K H lo hi B ms) : Sums K H' lo hi B ms := fun y hy => by
  obtain ⟨d, qs, h1, h2⟩ := h y hy
  exact ⟨d, qs, sum_same s h1, h2⟩
theorem Sums.t (s : SameT H H') (h : Sums K H lo hi B ms) : Sums K H' lo hi B ms := fun y hy => by
  obtain ⟨d, qs, h1, h2⟩ := h y hy
  exact ⟨d, qs, sum_t s h1, h2⟩
theorem Sums.snoc {v : V} {d : Int} {qs : Bag} (h : Sums K H lo hi B ms) (ho : SumO K H v d qs) (hv : SumV d qs) (h1 : lo ≤ d) (h2 : d ≤ hi) (h3 : sumC qs ≤ B) : Sums K H lo hi B (ms ++ [v]) := fun y hy => by
  rcases List.mem_append.mp hy with h' | h'
  · exact h y h'
  · rw [List.mem_singleton.mp h']; exact ⟨d, qs, ho, hv, h1, h2, h3⟩
theorem Sums.app {ns : List V} (h : Sums K H lo hi B ms) (h' : Sums K H lo hi B ns) : Sums K H lo hi B (ms ++ ns) := fun y hy => by
  rcases List.mem_append.mp hy with z | z
  · exact h y z
  · exact h' y z
theorem Sums.le {lo' hi' B' : Int} (h : Sums K H lo hi B ms) (h1 : lo' ≤ lo) (h2 : hi ≤ hi') (h3 : B ≤ B') : Sums K H lo' hi' B' ms := fun y hy => by
  obtain ⟨d, qs, a1, a2, a3, a4, a5⟩ := h y hy
  exact ⟨d, qs, a1, a2, by omega, by omega, by omega⟩
end
/-! ### values that are no objects of an own class -/
def Plain (K : PySem.W.Frag) (H : Hp) (z : V) : Prop := (∃ e, Dp K H z e) ∨ (∃ a xs, z = .ref a ∧ H a = some (.lst xs)) ∨ ∃ a kvs, z = .ref a ∧ H a = some (.dK kvs)
theorem Plain.same {K : PySem.W.Frag} {H H' : Hp} {z : V} (s : Same H H') (h : Plain K H z) : Plain K H' z := by
  rcases h with ⟨e, h⟩ | ⟨a, xs, rfl, h⟩ | ⟨a, xs, rfl, h⟩
  · exact .inl ⟨e, dp_same s h⟩
  · exact .inr (.inl ⟨a, xs, rfl, s _ _ h⟩)
  · exact .inr (.inr ⟨a, xs, rfl, s _ _ h⟩)
theorem Plain.ty {K : PySem.W.Frag} {H : Hp} {z : V} (h : Plain K H z) : ∃ T, T ∈ ["NoneType", "bool", "int", "str", "list", "tuple", "dict"] ∧ TyX K H z (.type T) := by
  rcases h with ⟨e, h⟩ | ⟨a, xs, rfl, h⟩ | ⟨a, xs, rfl, h⟩
  · exact ⟨_, by cases e <;> simp [tyD], ty_dp h⟩
  · exact ⟨"list", by simp, .base (.lst h)⟩
  · exact ⟨"dict", by simp, .base (.dK h)⟩
end TP

namespace TP
open PySem PySem.Spec PyProof.Rows L2
/-! ### slots (the class Replacing) -/
abbrev repF : List Str := ["slots", "counts", "__bool__"]
structure RepV (c : Int) (ps : Bag) : Prop where
  c2 : 2 ≤ c
  c9 : c ≤ 9
  ok : BagOk ps
  len : (ps.length : Int) ≤ c
def RepO (K : PySem.W.Frag) (H : Hp) (v : V) (c : Int) (ps : Bag) : Prop := ∃ a dx b, v = .ref a ∧ H a = some (.ins (He.ga K "Replacing") dx [("slots", .int c), ("counts", b)]) ∧ Dp K H b (bagD ps)
def spInitR (K : PySem.W.Frag) : Sp := fun vs H Q _ => ∃ (x dx : Addr) (c : Int) (ps : Bag) (b : V), vs = [.ref x, .int c, b] ∧ H x = some (.ins (He.ga K "Replacing") dx []) ∧ Dp K H b (bagD ps) ∧ RepV c ps ∧
  ∀ H', SameB x H H' → H' x = some (.ins (He.ga K "Replacing") dx [("slots", .int c), ("counts", b)]) → Q .non H'
section
variable {K : PySem.W.Frag} {mg : Str → Option Value} {H H' : Hp} {Q : VK} {v : V} {c : Int} {ps : Bag}
end
section
variable {K : PySem.W.Frag} {mg : Str → Option Value} {H H' : Hp} {Q : VK} {v w : V} {c d : Int} {ps qs : Bag} {sp : Sp} {js : List Nat} {E : XK} {neg : Bool}
end
/-! ### what slots tell of themselves -/
def rTextR (c : Int) (ps : Bag) : Str := ("Replacing(" : Str) ++ intS c ++ (", '" : Str) ++ cText ps ++ ("')" : Str)
def leastR (c : Int) (ps : Bag) : Int := if (ps.length : Int) = c then minV ps else 0
def tellD (c : Int) (ps : Bag) : PyData := .list [.int c, bagD ps, .int (leastR c ps), .int (ps.length : Nat), .bool (!decide (ps = [])), .str (cText ps), .str (rTextR c ps)]
/-! ### pairs of a number of slots and counts -/
def PrO (K : PySem.W.Frag) (H : Hp) (y : V) : Prop := ∃ t w d qs, y = .ref t ∧ SqT K H t [.int d, w] ∧ Dp K H w (bagD qs) ∧ 2 ≤ d ∧ d ≤ 9 ∧ BagOk qs ∧ BagS qs ∧ qs.length ≤ 100
theorem PrO.same {K : PySem.W.Frag} {H H' : Hp} {y : V} (s : Same H H') (h : PrO K H y) : PrO K H' y := by
  obtain ⟨t, w, d, qs, e, h1, h2, h3⟩ := h
  exact ⟨t, w, d, qs, e, sqt_same s h1, dp_same s h2, h3⟩
theorem PrO.t {K : PySem.W.Frag} {H H' : Hp} {y : V} (s : SameT H H') (h : PrO K H y) : PrO K H' y := by
  obtain ⟨t, w, d, qs, e, h1, h2, h3⟩ := h
  exact ⟨t, w, d, qs, e, s.sqt h1, dp_flat s h2 (flat_bag qs), h3⟩
/-! ### a tuple times 0 or 1 -/
def rRepB (K : PySem.W.Frag) : R2 := fun x y H Q => ∃ l k xs, x = .ref l ∧ y = .int k ∧ SqT K H l xs ∧ xs ≠ [] ∧ ((k = 0 ∧ ∀ p, H p = none → Q (.ref p) (upd H p (.tup []))) ∨ (k = 1 ∧ Q (.ref l) H))
end TP

namespace TP
open PySem PySem.Spec PyProof.Rows L2
/-! ### {**a, **b} -/
section
variable {prog : Program} {w : World} {A : Around} {E : Value → Shared → Prop} {s : Shared}
end
/-- {**a, **b}: the new dict stands while the parts are read -/
def tDMrg (ta tb : TE) : TE := fun σ H Q => ∀ p, H p = none → ta σ (upd H p (.dK [])) fun x H1 => ∃ a kvs, x = .ref a ∧ a ≠ p ∧ Rd H1 a (.dK kvs) ∧ H1 p = some (.dK []) ∧
  tb σ (upd H1 p (.dK (mergeK [] kvs))) fun y H2 => ∃ b kvs2, y = .ref b ∧ b ≠ p ∧ Rd H2 b (.dK kvs2) ∧ H2 p = some (.dK (mergeK [] kvs)) ∧ kvs.length + kvs2.length ≤ 10000 ∧ Q (.ref p) (upd H2 p (.dK (mergeK (mergeK [] kvs) kvs2)))
/-! tables joined -/
def mrgT (s t : Bag) : Bag := t.foldl (fun acc q => putT acc q.1 q.2) s
/-! ### true counts that fit, by names -/
def FitB (ps : Bag) (d N : Int) (qs : Bag) : Prop := sumC qs = N ∧ ∀ n, getT ps n ≤ getT qs n ∧ getT qs n ≤ getT ps n + d
theorem FitV.b {c : Int} {ps : Bag} {d N : Int} {fs : Bag} (h : FitV c ps d fs) (hN : N = sumC ps + d * (c + 1)) : FitB ps d N fs := ⟨by rw [h.sum, hN], fun n => ⟨h.low n, h.hi n⟩⟩
/-! ### values that are bags -/
def Bags (K : PySem.W.Frag) (H : Hp) (xs : List V) : Prop := ∀ y ∈ xs, ∃ qs, Dp K H y (bagD qs) ∧ BagOk qs ∧ qs.length ≤ 12
section
variable {K : PySem.W.Frag} {H H' : Hp} {xs ys : List V}
theorem Bags.same (h : Bags K H xs) (s : Same H H') : Bags K H' xs := fun y hy => by
  obtain ⟨qs, h1, h2⟩ := h y hy
  exact ⟨qs, dp_same s h1, h2⟩
theorem Bags.t (h : Bags K H xs) (s : SameT H H') : Bags K H' xs := fun y hy => by
  obtain ⟨qs, h1, h2⟩ := h y hy
  exact ⟨qs, dp_flat s h1 (flat_bag qs), h2⟩
theorem Bags.app (h : Bags K H xs) (h' : Bags K H ys) : Bags K H (xs ++ ys) := fun y hy => (List.mem_append.mp hy).elim (h y) (h' y)
theorem Bags.one {v : V} {qs : Bag} (h : Dp K H v (bagD qs)) (ho : BagOk qs) (hl : qs.length ≤ 12) : Bags K H [v] := fun y hy => by
  rw [List.mem_singleton.mp hy]; exact ⟨qs, h, ho, hl⟩
theorem Bags.two {v w : V} {ps qs : Bag} (h : Dp K H v (bagD ps)) (ho : BagOk ps) (hl : ps.length ≤ 12) (h' : Dp K H w (bagD qs)) (ho' : BagOk qs) (hl' : qs.length ≤ 12) : Bags K H [v, w] := (Bags.one h ho hl).app (.one h' ho' hl')
end
end TP

namespace TP
open PySem PySem.Spec PyProof.Rows L2
end TP

namespace TP
open PySem PySem.Spec PyProof.Rows L2
/-! ### min of texts, max with a default -/
def rMinS (K : PySem.W.Frag) : List V → Hp → VK → Prop := fun vs H Q => ∃ (a : Addr) (ws : List Str), vs = [V.ref a] ∧ SqL K H a (ws.map V.str) ∧ 0 < ws.length ∧ ∀ m, m ∈ ws → (∀ y, y ∈ ws → ¬ ltS y m) → Q (.str m) H
def rMaxD (K : PySem.W.Frag) : List V → List V → Hp → VK → Prop := fun vs zs H Q => ∃ (a : Addr) (ns : List Int) (d : Int), vs = [V.ref a] ∧ zs = [.int d] ∧ SqL K H a (ns.map V.int) ∧ (ns = [] → Q (.int d) H) ∧ ∀ m, m ∈ ns → (∀ y, y ∈ ns → y ≤ m) → Q (.int m) H
section
variable {X : Cx}
end
section
variable {K : PySem.W.Frag} {H : Hp} {Q : VK} {a : Addr}
/-! del d[k], d[k] += v -/
def DelC (x y : V) (H : Hp) (k : Hp → Prop) : Prop := ∃ a kvs kk, x = .ref a ∧ H a = some (.dK kvs) ∧ y = kV kk ∧ (valV kvs kk).isSome = true ∧ k (upd H a (.dK (dropK kvs kk)))
def dropT (t : Bag) (n : Str) : Bag := t.filter fun p => decide (p.1 ≠ n)
/-- d[k] += v of numbers -/
def AugC (x y : V) (tv : TE) (σ : L2.St) (rd : V → V → Hp → VK → Prop) (H : Hp) (k : Hp → Prop) : Prop := ∃ a v, x = .ref a ∧ DGet H a y (some v) ∧ tv σ H fun y2 H3 => rd v y2 H3 fun z H4 => ∃ H5, DPut H4 a y z H5 ∧ k H5
end
end TP

namespace TP
open PySem PySem.Spec PyProof.Rows L2
/-! ### the replacing rule -/
open Classical in
noncomputable def minN (l : List Str) : Str := if h : ∃ m, m ∈ l ∧ ∀ y ∈ l, ¬ ltS y m then Classical.choose h else Str.empty
def losersT (t : Bag) : List Str := (t.filter fun p => decide (p.2 = minV t)).map (·.1)
noncomputable def loserT (t : Bag) : Str := minN (losersT t)
open Classical in
noncomputable def plcT (c : Int) (t : Bag) (n : Str) (m : Int) : Bag :=
  if n ∈ keys t then putT t n (getT t n + m) else if (t.length : Int) = c then dropT t (loserT t) ++ [(n, minV t + m)] else t ++ [(n, m)]
/-! what the least count is, by the numbers -/
def InStep (c : Int) (t t' : Bag) (n : Str) (m : Int) : Prop := (∀ x, getT (lowT t' (leastR c t')) x = getT (arrT (c - 1) (lowT t (leastR c t)) n m).1 x) ∧ leastR c t' = leastR c t + (arrT (c - 1) (lowT t (leastR c t)) n m).2
/-- above the least count, and how much it rose -/
def Above (c : Int) (t t' s : Bag) (l : Int) : Prop := (lowT t' (leastR c t')).Perm s ∧ leastR c t' = leastR c t + l
noncomputable def plcs (c : Int) (t : Bag) (rs : Bag) : Bag := rs.foldl (fun t r => plcT c t r.1 r.2) t
end TP

namespace TP
open PySem PySem.Spec PyProof.Rows L2
/-! ### sorted of a tuple of pairs -/
section
variable {prog : Program} {w : World} {A : Around} {E : Value → Shared → Prop} {s : Shared}
end
def rSortedBT (K : PySem.W.Frag) : List V → Hp → VK → Prop := fun vs H Q => ∃ (a : Addr) (xs : List V) (ps : Bag), vs = [V.ref a] ∧ SqT K H a xs ∧ DpAll K H xs (ps.map pairD) ∧ (keys ps).Nodup ∧ ps.length < 64 ∧
  ∀ (ys : List V) (qs : Bag) (p : Addr), qs.Perm ps → (qs.Pairwise fun a b => ltS a.1 b.1) → DpAll K H ys (qs.map pairD) → H p = none → Q (.ref p) (upd H p (.lst ys))
section
variable {X : Cx}
end
/-! d.pop(k) -/
end TP

namespace TP
open PySem PySem.Spec PyProof.Rows L2
def RevC (K : PySem.W.Frag) (x : V) (H : Hp) (Q : VK) : Prop := ∃ a xs, x = .ref a ∧ SqL K H a xs ∧ ∀ p, H p = none → Q (.ref p) (upd H p (.lst xs.reverse))
/-! ### bags with any numbers, shown -/
def BagI (ps : Bag) : Prop := ∀ p ∈ ps, isName p.1 = true ∧ p.2.natAbs ≤ 10 ^ 100
/-! ### losses -/
def lossT (p1 p2 p3 : Bag) : Bag := tabOf (p1 ++ p2 ++ sgnB (-1) p3)
def nzF (t : Bag) (ys : List Str) : Bag := ys.filterMap fun y => if getT t y = 0 then none else some (y, getT t y)
/-- the numbers of a table but the zeros, ascending -/
def NzB (t ls : Bag) : Prop := ∃ ys : List Str, ys.Perm (keys t) ∧ ys.Pairwise ltS ∧ ls = nzF t ys
end TP

namespace TP
open PySem PySem.Spec PyProof.Rows L2
/-! ### obstacles of merging -/
def maxV0 (t : Bag) : Int := (t.map (·.2)).foldl max 0
def loD (c : Int) (t : Bag) : Int := max (maxV0 t) ((sumC t + 2 * c - 1) / (2 * c))
def hiD (c : Int) (t : Bag) : Int := sumC t / (c + 1)
def GainR (t : Bag) (gs : List Str) : Prop := ∃ ys : List Str, ys.Perm (keys t) ∧ ys.Pairwise ltS ∧ gs = ys.filter fun y => decide (getT t y < 0)
/-- what merge_obstacle tells -/
def ObsD (c : Int) (t : Bag) (d : PyData) : Prop := ∃ gs, GainR t gs ∧ ((∃ y r, gs = y :: r ∧ d = .tuple [.str "gain", .str y]) ∨ (gs = [] ∧ d = if loD c t ≤ hiD c t then .none else .tuple [.str "range", .int (loD c t), .int (hiD c t)]))
def noneD : PyData → Bool
  | .none => true
  | _ => false
end TP

namespace TP
open PySem PySem.Spec PyProof.Rows L2
/-! ### xs.extend(t), t a tuple -/
def rExtendT (K : PySem.W.Frag) : V → List V → Hp → VK → Prop := fun x vs H Q => ∃ l b xs zs, x = .ref l ∧ vs = [.ref b] ∧ H l = some (.lst xs) ∧ SqT K H b zs ∧ xs.length + zs.length ≤ sizeLine ∧ Q .non (upd H l (.lst (xs ++ zs)))
/-! ### orders one behind the other -/
end TP

namespace TP
open PySem PySem.Spec PyProof.Rows L2
/-! ### how many names can be ahead -/
def grd (d : Int) (z : Int × Int) (ns : List Int) : Int × Int := ns.foldl (fun z n => if n ≤ min d z.1 then (z.1 - n, z.2 + 1) else z) z
/-- a part of a list -/
def PartOf (S l : List Int) : Prop := ∃ r, (S ++ r).Perm l
def worth (g d U : Int) (q : Int × Int) : Int := q.1 + if g ≤ d then (U - q.2) / g else 0
/-! all choices -/
def choF (acc : List (Int × Int)) (n : Int) : List (Int × Int) := acc ++ acc.map fun q => (q.1 + 1, q.2 + n)
def cho (ns : List Int) : List (Int × Int) := ns.foldl choF [(0, 0)]
def bestF (g d U : Int) (b : Int) (q : Int × Int) : Int := if q.2 ≤ U then max b (worth g d U q) else b
def iiD (q : Int × Int) : PyData := .tuple [.int q.1, .int q.2]
def needL (g : Int) (ps : Bag) (x : Str) : List Int := (ps.filter fun p => !decide (p.1 = x)).map fun p => if g - p.2 > 0 then g - p.2 else 0
def aheadL (c d : Int) (ps : Bag) (x : Str) : Int := (cho ((needL (getT ps x + 1) ps x).filter fun n => decide (n ≤ d))).foldl (bestF (getT ps x + 1) d (d * (c + 1))) 0
end TP

namespace TP
open PySem PySem.Spec PyProof.Rows L2 TL
/-! ### texts of orders -/
def wrdS (p : Str × Int) : Str := if 1 < p.2 then p.1 ++ ("*" : Str) ++ intS p.2 else p.1
def oText (rs : Bag) : Str := if rs = [] then "-" else Txt.join " " (rs.map wrdS)
def rIntS : List V → Hp → VK → Prop := fun xs H Q => ∃ (a : Str) (n : Int), xs = [.str a] ∧ intText? a = some n ∧ a.length ≤ 640 ∧ Q (.int n) H
/-! ### runs that are cut -/
def PartsOf (n : Str) (m : Int) (qs : Bag) : Prop := qs ≠ [] ∧ (∀ q ∈ qs, q.1 = n ∧ 1 ≤ q.2) ∧ sumC qs = m
inductive CutOf : Bag → Bag → Prop
  | nil : CutOf [] []
  | snoc {rs qs ps : Bag} {r : Str × Int} (h : CutOf rs qs) (hp : PartsOf r.1 r.2 ps) : CutOf (rs ++ [r]) (qs ++ ps)
def Alike (c : Int) (ps rs qs : Bag) : Prop := OrdOk qs ∧ (playT c ps qs).1.Perm (playT c ps rs).1 ∧ (playT c ps qs).2 = (playT c ps rs).2 ∧ ∀ x, cntC qs x = cntC rs x
end TP

namespace TP
open PySem PySem.Spec PyProof.Rows L2
/-! ### except (c1, c2, c3) as n -/
def wAs3 (K : PySem.W.Frag) (c1 c2 c3 : Value) (i : Nat) (ts : Addr → Value → Option Addr → TS) (Wout : WX) (D : Ends) : WX := fun cls d σ H =>
  ∃ b, PySem.W.exmAny K cls [c1, c2, c3] = some b ∧ (b = true → ∀ a, H a = none → ts a cls d { nx := fun σ' H' => D.nx (σ'.set i none) H', rt := D.rt, bk := fun σ' H' => D.bk (σ'.set i none) H', ct := fun σ' H' => D.ct (σ'.set i none) H' } (σ.set i (some (.ref a))) H) ∧
    (b = false → Wout cls d σ H)
section
variable {X : Cx} {x1 x2 x3 n : Str} {c1 c2 c3 : Value} {i kk : Nat} {body suite : List Stmt} {b₀ : Stmt} {np1 np2 np3 tpos pos pos' : Pos} {tb : WX → TS} {ts : Addr → Value → Option Addr → TS} {Wout : WX}
end
end TP
namespace TPX
open PySem PySem.W PySem.Spec PySem.Calls PyProof.Rows
section
variable {prog : Program} {w : World} {A : Around} {E : Value → Shared → Prop} {s : Shared} {K : Frag} {x D : Addr} {ox : Obj} {od : Option Obj}
end
end TPX
namespace TP
open PySem PySem.Spec PyProof.Rows L2
/-! ### the exception that is held, in the suite and in the defs that it is handed to -/
/-- p is pinned: an exception of the class at D, its dict at dd -/
structure Held (X : Cx) (p : Addr × Obj) (D dd : Addr) : Prop where
  pin : p ∈ X.pn
  z : Zc (.ref D) (some dd) p.2
  f : ∃ vs, p.2.data = .fields vs
def rIsP (K : PySem.W.Frag) (a D dd : Addr) : List V → Hp → VK → Prop := fun xs H Q => ∃ (c : V) (cv : Value) (b : Bool) (fs : List (Str × V)), xs = [.ref a, c] ∧ ClsV c cv ∧ H dd = some (.xd fs) ∧ PySem.W.kitOne K (.ref D) cv = some b ∧ Q (.bl b) H
def rIsPT (K : PySem.W.Frag) (a D dd : Addr) : List V → Hp → VK → Prop := fun xs H Q => ∃ (tp : Addr) (cs : List V) (us : List Value) (b : Bool) (fs : List (Str × V)), xs = [.ref a, .ref tp] ∧ H tp = some (.tup cs) ∧ Paired ClsV cs us ∧ H dd = some (.xd fs) ∧ PySem.W.kitAny K (.ref D) us = some b ∧ Q (.bl b) H
/-- e.f -/
def tXp (a dd : Addr) (f : Str) (te : TE) : TE := fun σ H Q => te σ H fun x H1 => x = .ref a ∧ ∃ (fs : List (Str × V)) (v : V), H1 dd = some (.xd fs) ∧ fs.lookup f = some v ∧ Q v H1
/-! ### defs that are handed the held exception -/
abbrev RoomH := L2H.RoomH
abbrev PinOk := L2H.PinOk
structure FnP (P : Program) (w : World) (K : PySem.W.Frag) (mg : Str → Option Value) (base : Heap) (k : Nat) (f : Addr) (fd : FuncData) (ps : List Str) (sp : Addr × Obj → Sp) : Prop where
  len : ∀ p vs H Q E, sp p vs H Q E → vs.length = ps.length
  run : ∀ (A : Around) (outer : List Env) (s : Shared) (H : Hp) (args : Args) (us : List Value) (vs : List V) (Q : VK) (E : XK) (p : Addr × Obj), RoomH k A → A.guards = some [] → PinOk outer H s p →
    Env0 P w K mg base A outer s H → BindsTo s fd args (ps.zip us) → Vals vs us → sp p vs H Q E → codeAny (model P w) A (.call (.ref f) args) (CR CX0 outer P w H s Q E) s
structure HasP (P : Program) (w : World) (K : PySem.W.Frag) (mg : Str → Option Value) (base : Heap) (k : Nat) (x : Str) (st : Stmt) (ps : List Str) (sp : Addr × Obj → Sp) : Prop where
  ex : ∃ fd, FunD K x x (defArgs st) (defBody st) (defScope st) [] [] (He.ga K x) fd ∧ FnP P w K mg base k (He.ga K x) fd ps sp
  glo : mg x = some (.ref (He.ga K x))
end TP

/-! the end of a law with tables of code objects (turned from HandS.EndTab: FnG in place of FnOk) -/
namespace TP
open PySem PySem.Spec PyProof.Rows L2 LamX
def LawAtG (l : PySem.W.OpenLaw) (w : World) (K : PySem.W.Frag) (k n : Nat) (x : Str) (mg : Str → Option Value) (fa : Addr) (h : Heap) : Prop :=
  ∃ (fd : FuncData) (cs : List (Addr × Addr)) (sp : Sp), (∀ p ∈ cs, h.get? p.2 = some { cls := .none, data := .fields #[] }) ∧ (∀ p ∈ cs, K.lookup p.2 = none) ∧ (∀ p ∈ cs, PySem.W.CodeHd h p.1 p.2) ∧ (∀ (s : Shared) (u : Value), BindsTo s fd ⟨[u], []⟩ [(x, u)]) ∧
    (∀ (H : Hp) (a : Addr) (ns : List Int), ns.length ≤ n → (∀ p ∈ cs, H p.2 = some (.tbl #[])) → SqL K H a (ns.map V.int) → sp [.ref a] H (fun v _ => v = .bl true) fun _ _ _ => False) ∧
    ∀ base : Heap, K.In base → base.Ns mainGlobals mg → (∀ p ∈ cs, TabB base mg p.1 p.2) → FnG l.prog w K mg base CX0 k fa fd [x] sp
end TP

/-! own error classes over ValueError, LookupError, ArithmeticError (turned from HandS.Exc and HandS.ExcInit: there ValueError alone) -/
namespace TPE
open PySem
inductive XB | ve | le | ae
def XB.nm : XB → String
  | .ve => "ValueError"
  | .le => "LookupError"
  | .ae => "ArithmeticError"
def XB.nw : XB → String
  | .ve => "ValueError.__new__"
  | .le => "LookupError.__new__"
  | .ae => "ArithmeticError.__new__"
def XB.it : XB → String
  | .ve => "ValueError.__init__"
  | .le => "LookupError.__init__"
  | .ae => "ArithmeticError.__init__"
abbrev XB.tl (b : XB) : List Value := [.type b.nm, .type "Exception", .type "BaseException", .type "object"]
theorem base (b : XB) : ExcBaseFacts b.nm b.nw b.it b.tl := by
  cases b
  · exact F.excBase_ValueError
  · exact F.excBase_LookupError
  · exact F.excBase_ArithmeticError
/-- own classes, then the base's -/
def refsXB (b : XB) : List Value → Bool
  | .ref _ :: r => refsXB b r
  | l => l == b.tl
end TPE
namespace TPE
open PySem PySem.HandSPX Builtin Builtin.ObjectAttr
section
variable {prog : Program} {w : World} {A : Around} {E : Value → Shared → Prop} {R : Result → Shared → Prop} {hp : Heap} {g : Array GenState} {d : Drawn} {t : Nat} {os : OsState}
end
end TPE
namespace TP
open PySem PySem.Spec PyProof.Rows L2
structure OexB (K : PySem.W.Frag) (C : Addr) : Prop where
  cls : ∃ xb nm q N bs bm sn sub ab col dd k0 k1 k2 k3 k5, K.lookup C = some (excClassObj nm q C N bs bm true sn sub ab col dd k0 k1 k2 k3 k5 (TPE.XB.nw xb)) ∧ TPE.refsXB xb bm = true
  sa : PySem.W.findIn K (.ref C) "__setattr__" = some (some (.builtin "object.__setattr__"))
  exC : PySem.W.subIn K (.ref C) (.type "BaseException") = some true
  tyC : PySem.W.typeIn K (.ref C) = some (.type "type")
  kC : PySem.W.keepIn K (.ref C) = true
section
variable {X : Cx} {pins : List (Addr × Obj)} {σ : L2.St} {H : Hp} {s : Shared} {a C dx : Addr} {f : Str} {y : V} {u : Value} {fs : List (Str × V)} {Q : Unit → Shared → Prop} {E : Value → Shared → Prop} {A : Around}
end
def tOstB (K : PySem.W.Frag) (f : Str) (to te : TE) : TS := fun D σ H => te σ H fun y H1 => to σ H1 fun x H2 => ∃ a C : Addr, x = .ref a ∧ OexB K C ∧ PySem.W.findIn K (.ref C) f = some none ∧
  (H2 a = some (exo a C none) ∧ ∀ dx, H2 dx = none → dx ≠ a → D.nx σ (upd (upd H2 dx (exd dx [(f, y)])) a (exo a C (some dx))))
section
variable {X : Cx} {o e : Expr} {es : List Expr} {to te : TE} {ta : TA} {f : Str} {p p' p1 p2 pos : Pos}
end
/-! ### what the written part says of such a class -/
def oexS (K : PySem.W.Frag) (C : Addr) : Bool := match K.lookup C with
  | some ⟨.type "type", _, .cls cd, sl⟩ => (match cd.mro, sl.toList with
    | .ref C' :: bm, [_, _, _, _, some (.builtin n), _] => C' == C && ((n == "ValueError.__new__" && TPE.refsXB .ve bm || (n == "LookupError.__new__" && TPE.refsXB .le bm || n == "ArithmeticError.__new__" && TPE.refsXB .ae bm)) && (!cd.hasDel && cd.hasDict))
    | _, _ => false)
  | _ => false
/-- an own error class C, its __init__ keeping one value as f -/
structure ExcK (K : PySem.W.Frag) (mg : Str → Option Value) (C f : Str) : Prop where
  glo : mg C = some (.ref (He.ga K C))
  oex : OexB K (He.ga K C)
  na : PySem.W.findIn K (.ref (He.ga K C)) f = some none
  ini : PySem.W.findIn K (.ref (He.ga K C)) "__init__" = some (some (.ref (He.ma K (He.ga K C) "__init__")))
  fin : PySem.W.typeIn K (.ref (He.ma K (He.ga K C) "__init__")) = some (.type "function")
  ec : ExcC K (He.ga K C)
def exkB (K : PySem.W.Frag) (C f : Str) : Bool :=
  (He.Fa.glo C).ok K && (oexS K (He.ga K C) && (He.eqO (PySem.W.findIn K (.ref (He.ga K C)) "__setattr__") (some (some (.builtin "object.__setattr__"))) && (decide (PySem.W.subIn K (.ref (He.ga K C)) (.type "BaseException") = some true) && (decide (PySem.W.typeIn K (.ref (He.ga K C)) = some (.type "type")) &&
    (PySem.W.keepIn K (.ref (He.ga K C)) && (He.eqO (PySem.W.findIn K (.ref (He.ga K C)) f) (some none) && (He.eqO (PySem.W.findIn K (.ref (He.ga K C)) "__init__") (some (some (.ref (He.ma K (He.ga K C) "__init__")))) &&
    (decide (PySem.W.typeIn K (.ref (He.ma K (He.ga K C) "__init__")) = some (.type "function")) && (He.eqO (PySem.W.findIn K (.ref (He.ga K C)) "__getattribute__") (some (some (.builtin "BaseException.__getattribute__"))) &&
    (He.eqO (PySem.W.findIn K (.ref (He.ga K C)) "__getattr__") (some none) && (PySem.W.hasDictIn K (He.ga K C) && (He.eqO (PySem.W.findIn K (.ref (He.ga K C)) "__class__") (some (some (.builtin "object.__class__"))) &&
    (He.eqO (PySem.W.specialIn K (.builtin "object.__class__") "__get__") (some (some (.builtin "getset_descriptor.__get__"))) && (decide (PySem.W.takesIn K (.builtin "object.__class__") = some true) && decide (PySem.W.mroIn K (He.ga K C) (.type "object") = some true)))))))))))))))
/-! ### C(e) raised -/
def sp_ini (K : PySem.W.Frag) (C f : Str) : Sp := fun vs H Q _ => ∃ (a : Addr) (y : V), vs = [.ref a, y] ∧ H a = some (exo a (He.ga K C) none) ∧ ∀ dx, H dx = none → dx ≠ a → Q .non (upd (upd H dx (exd dx [(f, y)])) a (exo a (He.ga K C) (some dx)))
def RaiC (K : PySem.W.Frag) (C f : Str) (vs : List V) (H1 : Hp) (Q : XK) : Prop := vs.length ≤ 1000 ∧ ∀ a, H1 a = none → sp_ini K C f (.ref a :: (vs ++ [])) (upd H1 a (exo a (He.ga K C) none))
  (fun v H2 => v = .non ∧ ∃ (d : Addr) (fs : List (Str × V)), H2 a = some (exo a (He.ga K C) (some d)) ∧ H2 d = some (exd d fs) ∧ H1 d = none ∧ Q (.ref (He.ga K C)) (some d) (upd (del H2 a) d (.xd fs))) (fun _ _ _ => False)
/-- the class C can be made: its __init__ keeps its promise -/
structure HasX (P : Program) (w : World) (K : PySem.W.Frag) (mg : Str → Option Value) (base : Heap) (C f : Str) : Prop where
  k : ExcK K mg C f
  ex : ∃ (fd : FuncData) (ps : List Str), FnOk P w K mg base CX0 2 (He.ma K (He.ga K C) "__init__") fd ps (sp_ini K C f) ∧ L2.Binds K fd ps []
/-- raise C(e), out of the def -/
def tRai (K : PySem.W.Frag) (C f : Str) (W : WX) (te : TE) : TS := fun _ σ H => te σ H fun y H1 => RaiC K C f [y] H1 fun cls d H' => W cls d σ H'
/-! ### defs that may raise -/
abbrev CXe (P : Program) (w : World) : CXT := L2.CX P w
end TP

namespace TP
open PySem PySem.Spec PyProof.Rows L2 LamX
/-! ### the def that calls what it got and tells what was raised -/
/-- an own error: its class, its field, its word -/
abbrev ExE := Str × Str × Str
def exTab : List ExE := [("InvalidCapacity", "capacity", "capacity"), ("InvalidName", "name", "name"), ("InvalidTimes", "times", "times"), ("InvalidCounts", "index", "counts"), ("InvalidSummary", "index", "summary"), ("InvalidOrder", "index", "order"), ("InvalidPlan", "index", "plan"), ("InvalidText", "text", "text"),
  ("InvalidSize", "size", "size"), ("InvalidNumber", "number", "number"), ("InvalidSlots", "slots", "slots"), ("InvalidIndex", "index", "index"), ("InvalidAction", "index", "action"), ("InvalidLine", "line", "line"), ("NotASummary", "value", "notsummary"),
  ("CapacitiesDiffer", "capacity", "differ"), ("TooManyNames", "found", "names"), ("TooManyActions", "found", "actions")]
def HeldS (K : PySem.W.Frag) (p : Addr × Obj) (H : Hp) (e : ExE) (y : V) (dd : Addr) : Prop := Zc (.ref (He.ga K e.1)) (some dd) p.2 ∧ (∃ vs, p.2.data = .fields vs) ∧ H dd = some (.xd [(e.2.1, y)])
def spKind (K : PySem.W.Frag) : Addr × Obj → Sp := fun p vs H Q _ => ∃ (e : ExE) (y : V) (dd : Addr), vs = [.ref p.1] ∧ e ∈ exTab ∧ HeldS K p H e y dd ∧ ∀ H', Same H H' → Q (.str e.2.2) H'
def spFields (K : PySem.W.Frag) : Addr × Obj → Sp := fun p vs H Q _ => ∃ (e : ExE) (y : V) (dd : Addr), vs = [.ref p.1] ∧ e ∈ exTab ∧ HeldS K p H e y dd ∧ ∀ l H', Same H H' → H' l = some (.lst [y]) → Q (.ref l) H'
def CaughtC (K : PySem.W.Frag) (cls : Value) (d : Option Addr) (H : Hp) (Q : VK) : Prop := ∃ (e : ExE) (y : V) (dd : Addr), e ∈ exTab ∧ cls = .ref (He.ga K e.1) ∧ d = some dd ∧ H dd = some (.xd [(e.2.1, y)]) ∧ ∀ l H', Same H H' → H' l = some (.lst [.str e.2.2, y]) → Q (.ref l) H'
def LstC (xs : List V) (H1 : Hp) (Q : VK) : Prop := xs.length ≤ sizeLine ∧ ∀ p, H1 p = none → Q (.ref p) (upd H1 p (.lst xs))
def TCaught (K : PySem.W.Frag) : (XK → Hp → VK → Prop) → Hp → VK → Prop := fun tl H Q => tl (fun cls d H' => CaughtC K cls d H' Q) H fun v H1 => LstC [.str "returned", v] H1 Q
def tKF (K : PySem.W.Frag) (p : Addr × Obj) : TS := tRet (tOp rCat (tLst (tCons (tCall (spKind K p) [] E0 (tCons (tVar 1) tNil)) tNil)) (tCall (spFields K p) [] E0 (tCons (tVar 1) tNil)))
end TP

namespace TP
open PySem PySem.Spec PyProof.Rows L2
/-! ### all own error classes: what the written part says -/
def exLeaf : List Str := ["InvalidCapacity", "InvalidName", "InvalidTimes", "InvalidCounts", "InvalidSummary", "InvalidOrder", "InvalidPlan", "InvalidText", "InvalidSize", "InvalidNumber", "InvalidSlots", "InvalidIndex", "InvalidAction", "InvalidLine", "NotASummary", "CapacitiesDiffer", "Busy", "NothingToUndo", "TooManyNames", "TooManyActions"]
def exBase : List Str := ["TallyError", "StateError", "SizeError"]
def exFlds : List Str := ["capacity", "name", "times", "index", "text", "size", "number", "slots", "line", "value", "found"]
def exSup (C : Str) : Str := if C = "CapacitiesDiffer" then "StateError" else if C = "TooManyNames" then "SizeError" else if C = "TooManyActions" then "SizeError" else "TallyError"
def exIs (e : ExE) (C : Str) : Bool := decide (C = e.1) || decide (C = exSup e.1)
/-- an own error that is held: what is asked of its class -/
def exhB (K : PySem.W.Frag) (C : Str) : Bool :=
  decide (PySem.W.subIn K (.ref (He.ga K C)) (.type "BaseException") = some true) && (He.eqO (PySem.W.findIn K (.ref (He.ga K C)) "__getattribute__") (some (some (.builtin "BaseException.__getattribute__"))) &&
    (He.eqO (PySem.W.findIn K (.ref (He.ga K C)) "__getattr__") (some none) && (PySem.W.hasDictIn K (He.ga K C) && (He.eqO (PySem.W.findIn K (.ref (He.ga K C)) "__class__") (some (some (.builtin "object.__class__"))) &&
    (He.eqO (PySem.W.specialIn K (.builtin "object.__class__") "__get__") (some (some (.builtin "getset_descriptor.__get__"))) && (decide (PySem.W.takesIn K (.builtin "object.__class__") = some true) && decide (PySem.W.mroIn K (He.ga K C) (.type "object") = some true)))))))
structure ExF (K : PySem.W.Frag) (mg : Str → Option Value) : Prop where
  ec : ∀ e ∈ exTab, ExcC K (He.ga K e.1)
  glo : ∀ C ∈ exLeaf ++ exBase, mg C = some (.ref (He.ga K C))
  kit : ∀ e ∈ exTab, ∀ C ∈ exLeaf ++ exBase, PySem.W.kitOne K (.ref (He.ga K e.1)) (.ref (He.ga K C)) = some (exIs e C)
  kb : ∀ e ∈ exTab, PySem.W.kitOne K (.ref (He.ga K e.1)) (.type "ValueError") = some (exIs e "TallyError") ∧ PySem.W.kitOne K (.ref (He.ga K e.1)) (.type "LookupError") = some (exIs e "StateError") ∧ PySem.W.kitOne K (.ref (He.ga K e.1)) (.type "ArithmeticError") = some (exIs e "SizeError")
  na : ∀ e ∈ exTab, ∀ f ∈ exFlds, PySem.W.findIn K (.ref (He.ga K e.1)) f = some none
  exm : ∀ e ∈ exTab, PySem.W.exmAny K (.ref (He.ga K e.1)) [.ref (He.ga K "TallyError"), .ref (He.ga K "StateError"), .ref (He.ga K "SizeError")] = some true
  free : mg "ValueError" = none ∧ mg "LookupError" = none ∧ mg "ArithmeticError" = none
def exfB (K : PySem.W.Frag) : Bool :=
  exTab.all (fun e => exhB K e.1) && ((exLeaf ++ exBase).all (fun C => (He.Fa.glo C).ok K) && (exTab.all (fun e => (exLeaf ++ exBase).all fun C => decide (PySem.W.kitOne K (.ref (He.ga K e.1)) (.ref (He.ga K C)) = some (exIs e C))) &&
    (exTab.all (fun e => decide (PySem.W.kitOne K (.ref (He.ga K e.1)) (.type "ValueError") = some (exIs e "TallyError")) && (decide (PySem.W.kitOne K (.ref (He.ga K e.1)) (.type "LookupError") = some (exIs e "StateError")) && decide (PySem.W.kitOne K (.ref (He.ga K e.1)) (.type "ArithmeticError") = some (exIs e "SizeError")))) &&
    (exTab.all (fun e => exFlds.all fun f => He.eqO (PySem.W.findIn K (.ref (He.ga K e.1)) f) (some none)) && (exTab.all (fun e => decide (PySem.W.exmAny K (.ref (He.ga K e.1)) [.ref (He.ga K "TallyError"), .ref (He.ga K "StateError"), .ref (He.ga K "SizeError")] = some true)) &&
    ((He.Fa.free "ValueError").ok K && ((He.Fa.free "LookupError").ok K && (He.Fa.free "ArithmeticError").ok K)))))))
section
variable {K : PySem.W.Frag} {mg : Str → Option Value} {H : Hp} {Q : VK} {p : Addr × Obj} {e : ExE} {y : V} {dd : Addr}
end
/-- the errors whose fields the second def tells -/
def exOth : List Str := ["InvalidName", "InvalidTimes", "InvalidText", "InvalidNumber", "InvalidSlots", "InvalidSize", "InvalidLine"]
def spFieldsO (K : PySem.W.Frag) : Addr × Obj → Sp := fun p vs H Q _ => ∃ (e : ExE) (y : V) (dd : Addr), vs = [.ref p.1] ∧ e ∈ exTab ∧ HeldS K p H e y dd ∧ exOth.contains e.1 = true ∧ ∀ l H', Same H H' → H' l = some (.lst [y]) → Q (.ref l) H'
end TP



namespace TP
open PySem PySem.Spec PyProof.Rows L2 LamX
def top (i : Nat) : Stmt := PySem.Challenge.pw_tallyplans_k17_texts_that_are_none.main.body.getD i (.Pass ⟨0, 0, 0, 0⟩)
abbrev tabs (K : PySem.W.Frag) : List (Addr × Str) := [((He.cT K ("_law_one_right", none)).2, "_law_one_right.<locals>.<lambda>"), ((He.cT K ("_law_others_right", none)).2, "_law_others_right.<locals>.<lambda>")]
theorem tm__law_one_right (K : PySem.W.Frag) : ((He.cT K ("_law_one_right", none)).2, ("_law_one_right.<locals>.<lambda>" : Str)) ∈ tabs K := List.mem_cons_self
theorem tm__law_others_right (K : PySem.W.Frag) : ((He.cT K ("_law_others_right", none)).2, ("_law_others_right.<locals>.<lambda>" : Str)) ∈ tabs K := (List.mem_cons_of_mem _ List.mem_cons_self)
abbrev s_is_whole : Stmt := top 29
abbrev s_is_from : Stmt := top 30
abbrev s_is_between : Stmt := top 31
abbrev s_is_capacity : Stmt := top 32
abbrev s_is_name : Stmt := top 33
abbrev s_is_run : Stmt := top 34
abbrev s_first_invalid : Stmt := top 36
abbrev s_is_counts : Stmt := top 37
abbrev s_check_capacity : Stmt := top 38
abbrev s_read_number : Stmt := top 40
abbrev s_counts_text : Stmt := top 42
abbrev s_Summary___init__ : Stmt := inClass (top 44) 0
abbrev s_Summary___repr__ : Stmt := inClass (top 44) 4
abbrev s_scan_counts : Stmt := top 46
abbrev s_summary_or_none : Stmt := top 47
abbrev s_parse_summary : Stmt := top 48
abbrev s_parse_counts : Stmt := top 49
abbrev s__law_cell : Stmt := top 51
abbrev s__law_pool : Stmt := top 52
abbrev s__law_draw : Stmt := top 53
abbrev s__law_words : Stmt := top 54
abbrev s__law_often : Stmt := top 55
abbrev s__law_bag : Stmt := top 56
abbrev s__law_kind : Stmt := top 57
abbrev s__law_fields : Stmt := top 58
abbrev s__law_other_fields : Stmt := top 59
abbrev s__law_shown : Stmt := top 61
abbrev s__law_pair : Stmt := top 62
abbrev s__law_due : Stmt := top 63
abbrev s__law_bent : Stmt := top 64
abbrev s__law_digits_in_row : Stmt := top 65
abbrev s__law_one_right : Stmt := top 66
abbrev s__law_by_hand : Stmt := top 67
abbrev s__law_others_right : Stmt := top 68
abbrev s__law_right : Stmt := top 69
abbrev s_law : Stmt := top 70
abbrev s__law_caught : Stmt := top 60
theorem sc__law_caught : FnScope ["_law_call", "_law_e"] ["_law_call"] (defScope s__law_caught) := ⟨rfl, rfl, rfl, by decide +kernel, rfl, by decide +kernel, by decide +kernel⟩
theorem pb__law_caught : PosB "_law_caught" s__law_caught ["_law_call"] := fun _ _ _ _ _ _ us hl => match us, hl with | [_], _ => rfl
abbrev s_InvalidCapacity___init__ : Stmt := inClass (top 3) 0
theorem sc_InvalidCapacity___init__ : FnScope ["self", "capacity"] ["self", "capacity"] (defScope s_InvalidCapacity___init__) := ⟨rfl, rfl, rfl, by decide +kernel, rfl, by decide +kernel, by decide +kernel⟩
abbrev s_InvalidSummary___init__ : Stmt := inClass (top 7) 0
theorem sc_InvalidSummary___init__ : FnScope ["self", "index"] ["self", "index"] (defScope s_InvalidSummary___init__) := ⟨rfl, rfl, rfl, by decide +kernel, rfl, by decide +kernel, by decide +kernel⟩
abbrev s_InvalidText___init__ : Stmt := inClass (top 10) 0
theorem sc_InvalidText___init__ : FnScope ["self", "text"] ["self", "text"] (defScope s_InvalidText___init__) := ⟨rfl, rfl, rfl, by decide +kernel, rfl, by decide +kernel, by decide +kernel⟩
def d_is_whole : He.DefD := ⟨("is_whole", none), "is_whole", "is_whole", defArgs s_is_whole, defBody s_is_whole, defScope s_is_whole, [], []⟩
def d_is_from : He.DefD := ⟨("is_from", none), "is_from", "is_from", defArgs s_is_from, defBody s_is_from, defScope s_is_from, [], []⟩
def d_is_between : He.DefD := ⟨("is_between", none), "is_between", "is_between", defArgs s_is_between, defBody s_is_between, defScope s_is_between, [], []⟩
def d_is_capacity : He.DefD := ⟨("is_capacity", none), "is_capacity", "is_capacity", defArgs s_is_capacity, defBody s_is_capacity, defScope s_is_capacity, [], []⟩
def d_is_name : He.DefD := ⟨("is_name", none), "is_name", "is_name", defArgs s_is_name, defBody s_is_name, defScope s_is_name, [], []⟩
def d_is_run : He.DefD := ⟨("is_run", none), "is_run", "is_run", defArgs s_is_run, defBody s_is_run, defScope s_is_run, [], []⟩
def d_first_invalid : He.DefD := ⟨("first_invalid", none), "first_invalid", "first_invalid", defArgs s_first_invalid, defBody s_first_invalid, defScope s_first_invalid, [], []⟩
def d_is_counts : He.DefD := ⟨("is_counts", none), "is_counts", "is_counts", defArgs s_is_counts, defBody s_is_counts, defScope s_is_counts, [], []⟩
def d_check_capacity : He.DefD := ⟨("check_capacity", none), "check_capacity", "check_capacity", defArgs s_check_capacity, defBody s_check_capacity, defScope s_check_capacity, [], []⟩
def d_read_number : He.DefD := ⟨("read_number", none), "read_number", "read_number", defArgs s_read_number, defBody s_read_number, defScope s_read_number, [], []⟩
def d_counts_text : He.DefD := ⟨("counts_text", none), "counts_text", "counts_text", defArgs s_counts_text, defBody s_counts_text, defScope s_counts_text, [], []⟩
def d_Summary___init__ : He.DefD := ⟨("Summary", some "__init__"), "__init__", "Summary.__init__", defArgs s_Summary___init__, defBody s_Summary___init__, defScope s_Summary___init__, [.adr (dflA "Summary" "__init__" 0)], []⟩
def d_Summary___repr__ : He.DefD := ⟨("Summary", some "__repr__"), "__repr__", "Summary.__repr__", defArgs s_Summary___repr__, defBody s_Summary___repr__, defScope s_Summary___repr__, [], []⟩
def d_scan_counts : He.DefD := ⟨("scan_counts", none), "scan_counts", "scan_counts", defArgs s_scan_counts, defBody s_scan_counts, defScope s_scan_counts, [], []⟩
def d_summary_or_none : He.DefD := ⟨("summary_or_none", none), "summary_or_none", "summary_or_none", defArgs s_summary_or_none, defBody s_summary_or_none, defScope s_summary_or_none, [], []⟩
def d_parse_summary : He.DefD := ⟨("parse_summary", none), "parse_summary", "parse_summary", defArgs s_parse_summary, defBody s_parse_summary, defScope s_parse_summary, [], []⟩
def d_parse_counts : He.DefD := ⟨("parse_counts", none), "parse_counts", "parse_counts", defArgs s_parse_counts, defBody s_parse_counts, defScope s_parse_counts, [], []⟩
def d__law_cell : He.DefD := ⟨("_law_cell", none), "_law_cell", "_law_cell", defArgs s__law_cell, defBody s__law_cell, defScope s__law_cell, [], []⟩
def d__law_pool : He.DefD := ⟨("_law_pool", none), "_law_pool", "_law_pool", defArgs s__law_pool, defBody s__law_pool, defScope s__law_pool, [], []⟩
def d__law_draw : He.DefD := ⟨("_law_draw", none), "_law_draw", "_law_draw", defArgs s__law_draw, defBody s__law_draw, defScope s__law_draw, [], []⟩
def d__law_words : He.DefD := ⟨("_law_words", none), "_law_words", "_law_words", defArgs s__law_words, defBody s__law_words, defScope s__law_words, [], []⟩
def d__law_often : He.DefD := ⟨("_law_often", none), "_law_often", "_law_often", defArgs s__law_often, defBody s__law_often, defScope s__law_often, [], []⟩
def d__law_bag : He.DefD := ⟨("_law_bag", none), "_law_bag", "_law_bag", defArgs s__law_bag, defBody s__law_bag, defScope s__law_bag, [], []⟩
def d__law_kind : He.DefD := ⟨("_law_kind", none), "_law_kind", "_law_kind", defArgs s__law_kind, defBody s__law_kind, defScope s__law_kind, [], []⟩
def d__law_fields : He.DefD := ⟨("_law_fields", none), "_law_fields", "_law_fields", defArgs s__law_fields, defBody s__law_fields, defScope s__law_fields, [], []⟩
def d__law_other_fields : He.DefD := ⟨("_law_other_fields", none), "_law_other_fields", "_law_other_fields", defArgs s__law_other_fields, defBody s__law_other_fields, defScope s__law_other_fields, [], []⟩
def d__law_shown : He.DefD := ⟨("_law_shown", none), "_law_shown", "_law_shown", defArgs s__law_shown, defBody s__law_shown, defScope s__law_shown, [], []⟩
def d__law_pair : He.DefD := ⟨("_law_pair", none), "_law_pair", "_law_pair", defArgs s__law_pair, defBody s__law_pair, defScope s__law_pair, [], []⟩
def d__law_due : He.DefD := ⟨("_law_due", none), "_law_due", "_law_due", defArgs s__law_due, defBody s__law_due, defScope s__law_due, [], []⟩
def d__law_bent : He.DefD := ⟨("_law_bent", none), "_law_bent", "_law_bent", defArgs s__law_bent, defBody s__law_bent, defScope s__law_bent, [], []⟩
def d__law_digits_in_row : He.DefD := ⟨("_law_digits_in_row", none), "_law_digits_in_row", "_law_digits_in_row", defArgs s__law_digits_in_row, defBody s__law_digits_in_row, defScope s__law_digits_in_row, [], []⟩
def d__law_one_right : He.DefD := ⟨("_law_one_right", none), "_law_one_right", "_law_one_right", defArgs s__law_one_right, defBody s__law_one_right, defScope s__law_one_right, [], []⟩
def d__law_by_hand : He.DefD := ⟨("_law_by_hand", none), "_law_by_hand", "_law_by_hand", defArgs s__law_by_hand, defBody s__law_by_hand, defScope s__law_by_hand, [], []⟩
def d__law_others_right : He.DefD := ⟨("_law_others_right", none), "_law_others_right", "_law_others_right", defArgs s__law_others_right, defBody s__law_others_right, defScope s__law_others_right, [], []⟩
def d__law_right : He.DefD := ⟨("_law_right", none), "_law_right", "_law_right", defArgs s__law_right, defBody s__law_right, defScope s__law_right, [], []⟩
def d_law : He.DefD := ⟨("law", none), "law", "law", defArgs s_law, defBody s_law, defScope s_law, [], []⟩
def d_InvalidCapacity___init__ : He.DefD := ⟨("InvalidCapacity", some "__init__"), "__init__", "InvalidCapacity.__init__", defArgs s_InvalidCapacity___init__, defBody s_InvalidCapacity___init__, defScope s_InvalidCapacity___init__, [], []⟩
def d_InvalidSummary___init__ : He.DefD := ⟨("InvalidSummary", some "__init__"), "__init__", "InvalidSummary.__init__", defArgs s_InvalidSummary___init__, defBody s_InvalidSummary___init__, defScope s_InvalidSummary___init__, [], []⟩
def d_InvalidText___init__ : He.DefD := ⟨("InvalidText", some "__init__"), "__init__", "InvalidText.__init__", defArgs s_InvalidText___init__, defBody s_InvalidText___init__, defScope s_InvalidText___init__, [], []⟩
def d__law_caught : He.DefD := ⟨("_law_caught", none), "_law_caught", "_law_caught", defArgs s__law_caught, defBody s__law_caught, defScope s__law_caught, [], []⟩
def fn : List He.DefD := [d_is_whole, d_is_from, d_is_between, d_is_capacity, d_is_name, d_is_run, d_first_invalid, d_is_counts, d_check_capacity, d_read_number, d_counts_text, d_Summary___init__, d_Summary___repr__, d_scan_counts, d_summary_or_none, d_parse_summary, d_parse_counts, d__law_cell, d__law_pool, d__law_draw, d__law_words, d__law_often, d__law_bag, d__law_kind, d__law_fields, d__law_other_fields, d__law_shown, d__law_pair, d__law_due, d__law_bent, d__law_digits_in_row, d__law_one_right, d__law_by_hand, d__law_others_right, d__law_right, d_law, d_InvalidCapacity___init__, d_InvalidSummary___init__, d_InvalidText___init__, d__law_caught]
def fa : List He.Fa := [.glo "is_whole", .glo "is_from", .glo "is_between", .glo "is_capacity", .glo "is_name", .glo "is_run", .glo "first_invalid", .glo "is_counts", .glo "check_capacity", .glo "read_number", .glo "counts_text", .meth "Summary" "__init__", .meth "Summary" "__repr__", .glo "scan_counts", .glo "summary_or_none", .glo "parse_summary", .glo "parse_counts", .glo "_law_cell", .glo "_law_pool", .glo "_law_draw", .glo "_law_words", .glo "_law_often", .glo "_law_bag", .glo "_law_kind", .glo "_law_fields", .glo "_law_other_fields", .glo "_law_shown", .glo "_law_pair", .glo "_law_due", .glo "_law_bent", .glo "_law_digits_in_row", .glo "_law_one_right", .glo "_law_by_hand", .glo "_law_others_right", .glo "_law_right", .glo "law", .meth "InvalidCapacity" "__init__", .meth "InvalidSummary" "__init__", .meth "InvalidText" "__init__", .glo "_law_caught", .free "len", .free "isinstance", .free "range", .free "enumerate", .free "zip", .free "reversed", .free "int", .free "str", .free "bool", .free "tuple", .free "list", .free "dict", .free "bytes", .free "set", .free "sum", .free "all", .free "any", .free "abs", .free "min", .free "max", .free "sorted", .free "repr", .free "divmod", .free "type", .free "map", .free "iter", .free "next", .int "MAX_CAPACITY" 8, .str "LETTERS" "abcdefghijklmnopqrstuvwxyz", .int "MAX_NAMES" 12]
abbrev R : PySem.W.OpenRow := PySem.W.OpenLaw.row PySem.Challenge.rw_tallyplans_k17_texts_that_are_none
def tf : List He.Defn := [("_law_one_right", none), ("_law_others_right", none)]
def ex : List (PySem.W.Frag → Bool) := [fun K => clsB K "Summary" ["capacity", "counts", "__bool__"], fun K => etupB K (dflA "Summary" "__init__" 0 K), fun K => exkB K "InvalidCapacity" "capacity", fun K => exkB K "InvalidSummary" "index", fun K => exkB K "InvalidText" "text", fun K => decide (PySem.W.exmOne K (.ref (He.ga K "InvalidSummary")) (.ref (He.ga K "InvalidSummary")) = some true), exfB, fun K => decide ((He.cT K ("_law_one_right", none)).2 ≠ (He.cT K ("_law_others_right", none)).2)]
def exB : PySem.W.Frag → Bool := fun K => ex.all fun e => e K
end TP
namespace TP
open PySem PySem.Spec PyProof.Rows L2
/-! what the head looks at: the objects that the globals reach, a level at a time, each once (a Nat's bits tell which are seen) -/
def addY (z : Nat × List Addr × List Addr) (a : Addr) : Nat × List Addr × List Addr := match Nat.beq (Nat.land (Nat.shiftRight z.1 a) 1) 1 with
  | true => z
  | false => (Nat.lor z.1 (Nat.shiftLeft 1 a), a :: z.2.1, a :: z.2.2)
def levY (g : Addr → Option Obj) : Nat → Nat × List Addr × List Addr → List Addr
  | 0, z => z.2.1.reverse
  | n + 1, z => levY g n ((z.2.2.flatMap fun a => match g a with
    | some o => He.refsD o
    | none => []).foldl addY (z.1, z.2.1, []))
def asY (g : Addr → Option Obj) (n : Nat) : List Addr := levY g n (addY (0, [], []) mainGlobals)
def obsY (n : Nat) (fa : List He.Fa) (fn : List He.DefD) (tf : List He.Defn) (ex : PySem.W.Frag → Bool) (g : Addr → Option Obj) : He.AlX := (He.obsT fa fn [] (He.frT g (asY g n)), ex (He.frT g (asY g n)) && He.tabsB g tf (He.frT g (asY g n)))
theorem saysY {as : List Addr} {fa : List He.Fa} {fn : List He.DefD} {tf : List He.Defn} {ex : PySem.W.Frag → Bool} {w : World} {h : Heap} (e : ((He.obsT fa fn [] (He.frT h.get? as), ex (He.frT h.get? as) && He.tabsB h.get? tf (He.frT h.get? as)) : He.AlX) = He.valX fn [] w) : He.SaysX fa fn [] tf ex w h (He.frT h.get? as) := by
  have e1 := congrArg (fun z : He.AlX => z.1) e
  have e2 : (ex (He.frT h.get? as) && He.tabsB h.get? tf (He.frT h.get? as)) = true := congrArg (fun z : He.AlX => z.2) e
  rw [Bool.and_eq_true] at e2
  have tb : ∀ p ∈ tf, PySem.W.codeHdIn (He.frT h.get? as) (He.cT (He.frT h.get? as) p).1 (He.cT (He.frT h.get? as) p).2 = true ∧ ∃ o, h.get? (He.cT (He.frT h.get? as) p).2 = some o ∧ He.emptyTab o = true := fun p hp => by
    have a := List.all_eq_true.mp e2.2 p hp
    rw [Bool.and_eq_true] at a
    refine ⟨a.1, ?_⟩
    have b := a.2
    split at b
    · rename_i o q; exact ⟨o, q, b⟩
    · cases b
  refine ⟨e1, e2.1, fun p hp => (tb p hp).1, fun p hp => ?_, fun p hp => ?_⟩
  · obtain ⟨o, q, z⟩ := (tb p hp).2
    exact He.frT_none q z
  · obtain ⟨o, q, z⟩ := (tb p hp).2
    rw [q, He.emptyTab_eq z]
def hookY (n : Nat) (fa : List He.Fa) (fn : List He.DefD) (tf : List He.Defn) (ex : PySem.W.Frag → Bool) : PySem.W.Hook where
  α := He.AlX
  obs := fun s => obsY n fa fn tf ex s.heap.get?
  val := fun w => He.valX fn [] w
  says := fun w h => ∃ K : PySem.W.Frag, K.In h ∧ He.SaysX fa fn [] tf ex w h K
  of := fun _ _ e => ⟨_, He.frT_in, saysY e⟩
  keeps := fun _ _ _ ⟨K, hK, c⟩ k => ⟨K, PySem.W.Frag.In.keeps hK k, ⟨c.t, c.more, c.hd, c.out, fun p hp => k _ _ (c.empty p hp)⟩⟩
theorem obsY_eq {n : Nat} {fa : List He.Fa} {fn : List He.DefD} {tf : List He.Defn} {ex : PySem.W.Frag → Bool} {g : Addr → Option Obj} {s : Shared} (h : ∀ a, g a = s.heap.get? a) : obsY n fa fn tf ex g = (hookY n fa fn tf ex).obs s := by
  have e : g = s.heap.get? := funext h
  rw [e] <;> rfl
end TP
namespace TP
open PySem PySem.Spec PyProof.Rows L2 LamX
abbrev hk : PySem.W.Hook := hookY 6 fa fn tf exB
def ob (s : PySem.W.SharedT) : He.AlX := obsY 6 fa fn tf exB (HandSHeadRun.getT s)
theorem ob_eq (s : PySem.W.SharedT) : ob s = hk.obs s.abs := obsY_eq (HandSHeadRun.getT_eq s)
def loose0 : List Str := ["_wall", "TallyError", "InvalidCapacity", "InvalidName", "InvalidTimes", "InvalidCounts", "InvalidSummary", "InvalidOrder", "InvalidPlan", "InvalidText", "InvalidSize", "InvalidNumber", "InvalidSlots", "InvalidIndex", "InvalidAction", "InvalidLine", "NotASummary", "StateError", "CapacitiesDiffer", "Busy", "NothingToUndo", "SizeError", "TooManyNames", "TooManyActions", "MAX_CAPACITY", "MAX_NAMES", "LETTERS", "is_whole", "is_from", "is_between"]
def loose1 : List Str := ["is_capacity", "is_name", "is_run", "first_invalid", "is_counts", "check_capacity", "read_number", "counts_text", "Summary", "scan_counts", "summary_or_none", "parse_summary", "parse_counts", "_law_cell", "_law_pool", "_law_draw", "_law_words", "_law_often", "_law_bag", "_law_kind", "_law_fields", "_law_other_fields", "_law_caught", "_law_shown", "_law_pair", "_law_due", "_law_bent", "_law_digits_in_row", "_law_one_right", "_law_by_hand"]
def loose2 : List Str := ["_law_others_right", "_law_right"]
def loose : List Str := loose0 ++ loose1 ++ loose2
theorem run (w : World) : HandSHeadRun.RunEq R (PySem.W.view R.prog [70]) hk ob 16000 loose w := by
  intro os
  kernel_rfl
end TP
namespace TP
open PySem PySem.Spec PyProof.Rows L2
section
variable {P : Program} {w : World} {K : PySem.W.Frag} {mg : Str → Option Value} {base : Heap} {CX : CXT} {j k : Nat} {f : Addr} {fd : FuncData} {ps : List Str} {sp sp' : Sp}
theorem FnG.mono (F : FnG P w K mg base CX j f fd ps sp) (h : j ≤ k) : FnG P w K mg base CX k f fd ps sp :=
  ⟨F.len, fun A outer s H args us vs Q E hr hg => F.run A outer s H args us vs Q E (hr.mono h) hg⟩
end
section
variable {P : Program} {w : World} {K : PySem.W.Frag} {mg : Str → Option Value} {base : Heap} {CX : CXT} {k j : Nat} {x : Str} {st : Stmt} {N ps : List Str} {sp sp' : Sp}
end
section
variable {X : Cx} {CX : CXT} {k : Nat} {f : Addr} {fd : FuncData} {ps ks : List Str} {sp : Sp} {E : XK} {x : Str} {st : Stmt} {p pos : Pos} {e : Expr} {es : List Expr} {kws : List Keyword} {t tk : TA}
theorem runG {pins : List (Addr × Obj)} {σ : L2.St} {H : Hp} {s : Shared} {Q : VK} {us : List Value} {args : Args} {vs : List V} (F : FnG X.prog X.w X.K X.mg X.base CX k f fd ps sp) (hr : Room k X.A) (hg : X.A.guards = some []) (hx : Passes CX X E)
    (I : Inv X pins σ H s) (r : Vals vs us) (hb : BindsTo s fd args (ps.zip us)) (h : sp vs H Q E) : wpAny (model X.prog X.w) X.A (call (.ref f) args.pos args.kw) (EP X pins σ Q) X.xe s := by
  refine wpAny_call (codeAny_mono (F.run X.A X.stack s H args us vs Q E hr hg I.env0 hb r h) fun z s' hq => ?_)
  cases z with
  | error e => exact hx pins σ H s e s' I hq
  | ok fl =>
    cases fl with
    | ret u => exact I.after hq
    | next => exact hq.elim
    | brk => exact hq.elim
    | cont => exact hq.elim
theorem FunD.noDef {K : PySem.W.Frag} {q : Str} {params : Arguments} {body : List Stmt} {scope : Scope} {kvs : List (Str × V)} (F : FunD K x q params body scope [] kvs f fd) :
    ∃ (kV doc pm : Value) (an : Option Addr) (cdv ct : Value), fd = PySem.W.fnOf x q params body scope .none kV doc pm an cdv ct := by
  obtain ⟨oc, od, dV, kV, doc, pm, an, cdv, ct, osl, rfl, lk, hcd, hd, _⟩ := F.ex
  rcases hd with ⟨_, rfl⟩ | ⟨q, _⟩
  · exact ⟨kV, doc, pm, an, cdv, ct, rfl⟩
  · exact absurd rfl q
theorem pe_fn (F : Has X.prog X.w X.K X.mg X.base CX k x st ps sp) (hb : PosB x st ps) (hr : Room k X.A) (hg : X.A.guards = some []) (hgl : Gl X x) (hx : Passes CX X E)
    (ha : PA X (e :: es) t) (hdb : (x == ("__debug__" : Str)) = false := by decide) (he : starEach (e :: es) X.env = (false, eval e X.env) :: starEach es X.env := by rfl)
    (hpl : (backTo pos (starEach es X.env)).any (·.1) = false := by rfl) : PE X (.Call (.Name x p) (e :: es) [] pos) (tCall sp [] E t) := by
  obtain ⟨fd, FD, G⟩ := F.ex
  refine ⟨fun pins s σ H Q I h => ?_⟩
  refine wpAny_Call_Name_kw (ld_glob I hgl F.glo ?_ hdb)
  refine PySem.W.callWith_K (h₀ := X.base) I.ok.mod.kin FD.kp (thn (ha.run pos pins s σ H _ I h) fun us s1 ⟨vs, H1, I1, r, q⟩ => ⟨I1.kIn, ?_⟩) he hpl
  have q2 : sp vs H1 Q E := by rw [← List.append_nil vs]; exact q
  obtain ⟨kV, doc, pm, an, cdv, ct, rfl⟩ := FunD.noDef FD
  exact runG (args := ⟨us, []⟩) G hr hg hx I1 r (.of_eq (hb kV doc pm an cdv ct us (by rw [← r.length]; exact G.len _ _ _ _ q2))) q2
theorem pe_fn0 (F : Has X.prog X.w X.K X.mg X.base CX k x st ps sp) (hb : PosB x st ps) (hr : Room k X.A) (hg : X.A.guards = some []) (hgl : Gl X x) (hx : Passes CX X E)
    (hdb : (x == ("__debug__" : Str)) = false := by decide) : PE X (.Call (.Name x p) [] [] pos) (tCall sp [] E tNil) := by
  obtain ⟨fd, FD, G⟩ := F.ex
  refine ⟨fun pins s σ H Q I h => ?_⟩
  refine wpAny_Call_Name_kw (ld_glob I hgl F.glo ?_ hdb)
  have q2 : sp [] H Q E := h
  obtain ⟨kV, doc, pm, an, cdv, ct, rfl⟩ := FunD.noDef FD
  exact PySem.W.callWith_K0 I.kIn FD.kp (runG (args := ⟨[], []⟩) G hr hg hx I .nil (.of_eq (hb kV doc pm an cdv ct [] (G.len _ _ _ _ q2))) q2)
/-- f(k = v, ..) -/
theorem pe_fnK0 {g : {α : Type} → List α → List α → List α} (F : Has X.prog X.w X.K X.mg X.base CX k x st ps sp) (hb : KwB x st ps 0 ks g) (hgr : ∀ {vs zs : List V} {us ws : List Value}, Vals vs us → Vals zs ws → vs.length = 0 → zs.length = ks.length → Vals (g vs zs) (g us ws))
    (hr : Room k X.A) (hg : X.A.guards = some []) (hgl : Gl X x) (hx : Passes CX X E)
    (hkw : PK X kws tk) (hall : (backToKw pos (keywordEach kws X.env)).all (·.1.isSome) = true := by rfl) (hks : (backToKw pos (keywordEach kws X.env)).filterMap (·.1) = ks := by rfl)
    (hdb : (x == ("__debug__" : Str)) = false := by decide)
    (hpl : ((backTo pos (starEach [] X.env)).any (·.1) || (backToKw pos (keywordEach kws X.env)).any (·.1.isNone)) = false := by rfl) :
    PE X (.Call (.Name x p) [] kws pos) (tCallW sp 0 ks.length g E tNil tk) := by
  obtain ⟨fd, FD, G⟩ := F.ex
  refine ⟨fun pins s σ H Q I h => ?_⟩
  refine wpAny_Call_Name_kw (ld_glob I hgl F.glo ?_ hdb)
  refine PySem.W.callWith_KW0 (h₀ := X.base) I.ok.mod.kin FD.kp hall (thn (hkw.run pos pins s σ H _ I h) fun ws s2 ⟨zs, H2, I2, rz, l1, l2, q2⟩ => ⟨I2.kIn, ?_⟩) hpl
  rw [hks]
  obtain ⟨kV, doc, pm, an, cdv, ct, rfl⟩ := FunD.noDef FD
  exact runG (args := ⟨[], ks.zip ws⟩) (us := g [] ws) (vs := g [] zs) G hr hg hx I2 (hgr .nil rz rfl l2) (.of_eq (hb kV doc pm an cdv ct [] ws rfl (by rw [← rz.length]; exact l2))) q2
end
section
variable {P : Program} {w : World} {K : PySem.W.Frag} {mg mb : Str → Option Value} {k : Nat} {fa a : Addr} {fd : FuncData} {x : Str} {sp : Sp} {s₁ : Shared} {vs : List Value} {ns : List Int}
end
end TP

namespace TP
open PySem PySem.Spec PyProof.Rows L2
section
variable {H H' H1 : Hp} {p q : Addr} {o u : HO}
theorem hp_same (s : Same H H') (h : H p = some o) : H' p = some o := s p o h
theorem same_step (s : Same H H') (hq : H' q = none) : Same H (upd H' q u) := s.trans (same_new hq)
/-- an object that H does not know may change -/
theorem same_mut (s : Same H H') (hq : H q = none) : Same H (upd H' q u) := fun b o h => (upd_ne (ne_of_none h hq)).trans (s b o h)
theorem free_upd (h : upd H q u p = none) : H p = none := by
  by_cases e : p = q
  · subst e; rw [upd_same] at h; cases h
  · rw [upd_ne e] at h; exact h
theorem ne_fresh (h : H p = some o) (hq : H q = none) : p ≠ q := ne_of_none h hq
theorem szl {n : Nat} (h : n.ble 100000 = true) : n ≤ sizeLine := Nat.le_trans (Nat.le_of_ble_eq_true h) (by rw [sizeLine_eq]; decide)
theorem sz_le {n : Nat} (h : n ≤ 100000) : n ≤ sizeLine := Nat.le_trans h (by rw [sizeLine_eq]; decide)
theorem sz_lt {n : Nat} (h : n < 100000) : n < sizeLine := Nat.lt_of_lt_of_le h (by rw [sizeLine_eq]; decide)
end
theorem SameT.refl (H : Hp) : SameT H H := fun _ _ h _ _ => h
theorem SameT.dct {H : Hp} {l : Addr} {xs : List (Key × V)} {u : HO} (h : H l = some (.dK xs)) : SameT H (upd H l u) := fun a o e _ n => by
  by_cases z : a = l
  · subst z; rw [h] at e; cases e; exact absurd rfl (n xs)
  · exact (upd_ne z).trans e
section
variable {K : PySem.W.Frag} {H : Hp}
theorem dps_len : ∀ {vs : List V} {ds : List PyData}, DpAll K H vs ds → vs.length = ds.length
  | _, _, .nil => rfl
  | _, _, .cons _ r => by rw [List.length_cons, List.length_cons, dps_len r]
theorem dps_get : ∀ {vs : List V} {ds : List PyData} {i : Nat} {v : V}, DpAll K H vs ds → vs[i]? = some v → ∃ d, ds[i]? = some d ∧ Dp K H v d
  | _, _, i, _, .nil, e => by simp at e
  | _, _, 0, _, .cons h _, e => by simp at e; subst e; exact ⟨_, rfl, h⟩
  | _, _, i + 1, v, .cons _ r, e => by
    obtain ⟨d, h1, h2⟩ := dps_get (i := i) r (by simpa using e)
    exact ⟨d, by simpa using h1, h2⟩
theorem dps_get' : ∀ {vs : List V} {ds : List PyData} {i : Nat} {d : PyData}, DpAll K H vs ds → ds[i]? = some d → ∃ v, vs[i]? = some v ∧ Dp K H v d
  | _, _, i, _, .nil, e => by simp at e
  | _, _, 0, _, .cons h _, e => by simp at e; subst e; exact ⟨_, rfl, h⟩
  | _, _, i + 1, v, .cons _ r, e => by
    obtain ⟨d, h1, h2⟩ := dps_get' (i := i) r (by simpa using e)
    exact ⟨d, by simpa using h1, h2⟩
theorem dps_snoc : ∀ {vs : List V} {ds : List PyData} {v : V} {d : PyData}, DpAll K H vs ds → Dp K H v d → DpAll K H (vs ++ [v]) (ds ++ [d])
  | _, _, _, _, .nil, h => .cons h .nil
  | _, _, _, _, .cons a r, h => .cons a (dps_snoc r h)
theorem dp_int_inv {v : V} {i : Int} (h : Dp K H v (.int i)) : v = .int i := by cases h; rfl
theorem dp_str_inv {v : V} {x : Str} (h : Dp K H v (.str x)) : v = .str x := by cases h; rfl
theorem dp_tup_inv {v : V} {ds : List PyData} (h : Dp K H v (.tuple ds)) : ∃ a xs, v = .ref a ∧ SqT K H a xs ∧ DpAll K H xs ds := by cases h with | tup h r => exact ⟨_, _, rfl, h, r⟩
end
section
variable {σ : L2.St} {H : Hp} {Q : VK} {QB : Bool → Hp → Prop} {QA : List V → Hp → Prop} {QO : Option Int → Hp → Prop} {ta tb tc te : TE} {tt tu : TT} {tr : TA} {D : Ends} {s t u : TS} {g : TG} {gs : TGs} {r r' : R2} {v x y : V} {E : XK} {sp : Sp}
theorem w_var {i : Nat} (e : σ[i]? = some (some v)) (h : Q v H) : tVar i σ H Q := ⟨v, e, h⟩
theorem w_c (h : Q v H) : tC v σ H Q := h
theorem w_op (h : ta σ H fun x H1 => tb σ H1 fun y H2 => r x y H2 Q) : tOp r ta tb σ H Q := h
theorem w_un {r : V → Hp → VK → Prop} (h : ta σ H fun x H1 => r x H1 Q) : tUn r ta σ H Q := h
theorem w_U {g : Int → V} {i : Int} (h : Q (g i) H) : rU g (.int i) H Q := ⟨i, rfl, h⟩
theorem w_I0 {g : Int → Int → V} {i j : Int} (h : Q (g i j) H) : rI0 g (.int i) (.int j) H Q := ⟨i, j, rfl, rfl, h⟩
theorem w_I {C : Int → Int → Prop} {g : Int → Int → V} {i j : Int} (c : C i j) (h : Q (g i j) H) : rI C g (.int i) (.int j) H Q := ⟨i, j, rfl, rfl, c, h⟩
theorem w_eqI {i j : Int} (h : Q (.bl (decide (i = j))) H) : rEq (.int i) (.int j) H Q := by
  refine ⟨rfl, ?_⟩
  have e : decide (V.int i = V.int j) = decide (i = j) := by
    by_cases z : i = j
    · subst z; simp
    · rw [decide_eq_false z, decide_eq_false fun q => z (V.int.inj q)]
  rw [e]; exact h
theorem w_neI {i j : Int} (h : Q (.bl (!decide (i = j))) H) : rNe (.int i) (.int j) H Q := by
  refine ⟨rfl, ?_⟩
  have e : decide (V.int i = V.int j) = decide (i = j) := by
    by_cases z : i = j
    · subst z; simp
    · rw [decide_eq_false z, decide_eq_false fun q => z (V.int.inj q)]
  rw [e]; exact h
theorem w_eqS {i j : Str} (h : Q (.bl (decide (i = j))) H) : rEq (.str i) (.str j) H Q := by
  refine ⟨rfl, ?_⟩
  have e : decide (V.str i = V.str j) = decide (i = j) := by
    by_cases z : i = j
    · subst z; simp
    · rw [decide_eq_false z, decide_eq_false fun q => z (V.str.inj q)]
  rw [e]; exact h
theorem w_neS {i j : Str} (h : Q (.bl (!decide (i = j))) H) : rNe (.str i) (.str j) H Q := by
  refine ⟨rfl, ?_⟩
  have e : decide (V.str i = V.str j) = decide (i = j) := by
    by_cases z : i = j
    · subst z; simp
    · rw [decide_eq_false z, decide_eq_false fun q => z (V.str.inj q)]
  rw [e]; exact h
theorem w_isB {a b : Bool} (h : Q (.bl (decide (a = b))) H) : rIsB (.bl a) (.bl b) H Q := ⟨a, b, rfl, rfl, h⟩
theorem w_notB {a b : Bool} (h : Q (.bl (!decide (a = b))) H) : rNotB (.bl a) (.bl b) H Q := ⟨a, b, rfl, rfl, h⟩
theorem w_call (h : tr σ H fun vs H1 => sp vs H1 Q E) : tCall sp [] E tr σ H Q := by
  have e : (fun (vs : List V) (H1 : Hp) => sp (vs ++ []) H1 Q E) = fun vs H1 => sp vs H1 Q E := by funext vs H1; rw [List.append_nil]
  show tr σ H fun vs H1 => sp (vs ++ []) H1 Q E
  rw [e]; exact h
theorem w_CB {r : List V → Hp → VK → Prop} (h : tr σ H fun vs H1 => r vs H1 Q) : tCB r tr σ H Q := h
theorem w_nil (h : QA [] H) : tNil σ H QA := h
theorem w_cons (h : ta σ H fun x H1 => tr σ H1 fun xs H2 => QA (x :: xs) H2) : tCons ta tr σ H QA := h
theorem w_tup (h : tr σ H fun xs H1 => AllocT xs H1 Q) : tTup tr σ H Q := h
theorem w_lst (h : tr σ H fun xs H1 => AllocL xs H1 Q) : tLst tr σ H Q := h
theorem w_allocT {xs : List V} (l : xs.length.ble 100000 = true) (h : ∀ p, H p = none → Q (.ref p) (upd H p (.tup xs))) : AllocT xs H Q := ⟨szl l, h⟩
theorem w_allocL {xs : List V} (l : xs.length.ble 100000 = true) (h : ∀ p, H p = none → Q (.ref p) (upd H p (.lst xs))) : AllocL xs H Q := ⟨szl l, h⟩
theorem w_bl {c : Bool} {k : Bool → Prop} (h : k c) : BlC H (.bl c) k := ⟨c, rfl, h⟩
theorem w_andV (h : ta σ H fun x H1 => BlC H1 x fun c => if c = true then tb σ H1 Q else Q (.bl false) H1) : tAndV ta tb σ H Q := h
theorem w_orV (h : ta σ H fun x H1 => BlC H1 x fun c => if c = true then Q (.bl true) H1 else tb σ H1 Q) : tOrV ta tb σ H Q := h
theorem w_notV (h : ta σ H fun x H1 => BlC H1 x fun c => Q (.bl (!c)) H1) : tNotV ta σ H Q := h
theorem w_if (h : tt σ H fun c H1 => if c = true then ta σ H1 Q else tb σ H1 Q) : tIf tt ta tb σ H Q := h
theorem w_test (h : te σ H fun x H1 => BlC H1 x fun c => QB c H1) : tTest te σ H QB := h
theorem w_B (h : te σ H fun x H1 => BlC H1 x fun c => QB c H1) : tB te σ H QB := h
theorem w_and (h : tt σ H fun c H1 => if c = true then tu σ H1 QB else QB false H1) : tAnd tt tu σ H QB := h
theorem w_or (h : tt σ H fun c H1 => if c = true then QB true H1 else tu σ H1 QB) : tOr tt tu σ H QB := h
theorem w_not (h : tt σ H fun c H1 => QB (!c) H1) : tNot tt σ H QB := h
theorem w_chain (h : ta σ H fun x H1 => tb σ H1 fun y H2 => r x y H2 fun z H3 => BlC H3 z fun k => if k = true then tc σ H3 fun w' H4 => r' y w' H4 Q else Q (.bl false) H3) : tChain r r' ta tb tc σ H Q := h
theorem w_seq (h : t { D with nx := u D } σ H) : tSeq t u D σ H := h
theorem w_next (h : D.nx σ H) : tNext D σ H := h
theorem w_asg (h : te σ H fun x H1 => g x σ H1 D.nx) : tAsg te g D σ H := h
theorem w_gname {i : Nat} {QS : L2.St → Hp → Prop} (h : QS (σ.set i (some v)) H) : gName i v σ H QS := h
theorem w_gtup {K : PySem.W.Frag} {n : Nat} {a : Addr} {xs : List V} {QS : L2.St → Hp → Prop} (hs : SqT K H a xs) (hn : xs.length = n) (h : gs xs σ H QS) : gTup K n gs (.ref a) σ H QS := ⟨a, xs, rfl, hs, hn, h⟩
theorem w_gcons {xs : List V} {QS : L2.St → Hp → Prop} (h : g x σ H fun σ' H' => gs xs σ' H' QS) : gCons g gs (x :: xs) σ H QS := ⟨x, xs, rfl, h⟩
theorem w_gnil {QS : L2.St → Hp → Prop} (h : QS σ H) : gNil [] σ H QS := ⟨rfl, h⟩
theorem w_gsub {to ti : TE} {ts : TSet} {QS : L2.St → Hp → Prop} (h : to σ H fun o H1 => ti σ H1 fun i H2 => ts o i v H2 fun H3 => QS σ H3) : gSub to ti ts v σ H QS := h
theorem w_setL {p : Addr} {xs : List V} {i : Int} {j : Nat} {QH : Hp → Prop} (hp : H p = some (.lst xs)) (hj : ixN xs.length i = some j) (h : QH (upd H p (.lst (xs.set j v)))) : rSetL (.ref p) (.int i) v H QH := ⟨p, xs, i, j, rfl, rfl, hp, hj, h⟩
theorem w_ret (h : te σ H D.rt) : tRet te D σ H := h
theorem w_retN (h : D.rt .non H) : tRetN D σ H := h
theorem w_ifS {c : TT} (h : c σ H fun b H1 => if b = true then t D σ H1 else u D σ H1) : tIfS c t u D σ H := h
theorem w_drop (h : te σ H fun _ H1 => D.nx σ H1) : tDrop te D σ H := h
theorem w_aug {i : Nat} {ti : TIp} (e : σ[i]? = some (some v)) (h : te σ H fun y H1 => ti v y H1 fun z H2 => D.nx (σ.set i (some z)) H2) : tAug i te ti D σ H := ⟨v, e, h⟩
theorem w_ipI {f : Int → Int → Int} {i j : Int} (h : Q (.int (f i j)) H) : ipI f (.int i) (.int j) H Q := ⟨i, j, rfl, rfl, h⟩
theorem w_break (h : D.bk σ H) : tBreak D σ H := h
theorem w_cont (h : D.ct σ H) : tCont D σ H := h
theorem w_nx {n : L2.St → Hp → Prop} {r : VK} {b c : L2.St → Hp → Prop} (h : n σ H) : Ends.nx ⟨n, r, b, c⟩ σ H := h
theorem w_rt {n : L2.St → Hp → Prop} {r : VK} {b c : L2.St → Hp → Prop} (h : r v H) : Ends.rt ⟨n, r, b, c⟩ v H := h
theorem w_bk {n : L2.St → Hp → Prop} {r : VK} {b c : L2.St → Hp → Prop} (h : b σ H) : Ends.bk ⟨n, r, b, c⟩ σ H := h
theorem w_ct {n : L2.St → Hp → Prop} {r : VK} {b c : L2.St → Hp → Prop} (h : c σ H) : Ends.ct ⟨n, r, b, c⟩ σ H := h
theorem w_iteT {A B : Prop} (h : A) : if true = true then A else B := by rw [if_pos rfl]; exact h
theorem w_iteF {A B : Prop} (h : B) : if false = true then A else B := by rw [if_neg Bool.false_ne_true]; exact h
theorem w_ited {c A B : Prop} [Decidable c] (h1 : c → A) (h2 : ¬ c → B) : if decide c = true then A else B := by
  by_cases h : c
  · rw [if_pos (decide_eq_true h)]; exact h1 h
  · rw [if_neg (by rw [decide_eq_false h]; exact Bool.false_ne_true)]; exact h2 h
theorem w_iten {c A B : Prop} [Decidable c] (h1 : ¬ c → A) (h2 : c → B) : if (!decide c) = true then A else B := by
  by_cases h : c
  · rw [if_neg (by rw [decide_eq_true h]; exact Bool.false_ne_true)]; exact h2 h
  · rw [if_pos (by rw [decide_eq_false h]; rfl)]; exact h1 h
theorem w_iteb {b : Bool} {A B : Prop} (h1 : b = true → A) (h2 : b = false → B) : if b = true then A else B := by
  cases b
  · exact w_iteF (h2 rfl)
  · exact w_iteT (h1 rfl)
theorem w_itenb {b : Bool} {A B : Prop} (h1 : b = false → A) (h2 : b = true → B) : if (!b) = true then A else B := by
  cases b
  · exact w_iteT (h1 rfl)
  · exact w_iteF (h2 rfl)
theorem w_nott {A B : Prop} (h : B) : if (!true) = true then A else B := w_iteF h
theorem w_notf {A B : Prop} (h : A) : if (!false) = true then A else B := w_iteT h
theorem w_BM {K : PySem.W.Frag} {T : String} {r : V → List V → Hp → VK → Prop} (h : te σ H fun x H1 => tyV K T x H1 ∧ tr σ H1 fun xs H2 => r x xs H2 Q) : tBM K T r te tr σ H Q := h
theorem w_BM0 {K : PySem.W.Frag} {T : String} {r : V → List V → Hp → VK → Prop} (h : te σ H fun x H1 => tyV K T x H1 ∧ r x [] H1 Q) : tBM0 K T r te σ H Q := h
theorem w_sl {r : V → Option Int → Option Int → Hp → VK → Prop} {tl th : TO} (h : te σ H fun x H1 => tl σ H1 fun l H2 => th σ H2 fun u H3 => r x l u H3 Q) : tSl r te tl th σ H Q := h
theorem w_nopart (h : QO none H) : tNoPart σ H QO := h
theorem w_ixL {K : PySem.W.Frag} {p : Addr} {xs : List V} {i : Int} (hs : SqL K H p xs) (ha : atI xs i = some v) (h : Q v H) : rIxL K (.ref p) (.int i) H Q := ⟨p, xs, i, v, rfl, rfl, hs, ha, h⟩
theorem w_ixT {K : PySem.W.Frag} {p : Addr} {xs : List V} {i : Int} (hs : SqT K H p xs) (ha : atI xs i = some v) (h : Q v H) : rIxT K (.ref p) (.int i) H Q := ⟨p, xs, i, v, rfl, rfl, hs, ha, h⟩
theorem w_dnewK (h : ∀ p, H p = none → Q (.ref p) (upd H p (.dK []))) : tDNewK σ H Q := h
end
end TP

namespace PySem
open Sem (wp)
theorem tp_enum_new {v : Value} {o : Obj} {H : Heap → Prop} (B : Begins v o H) :
    Meets (Builtin.«enumerate.__new__» ⟨[.type "enumerate", v], []⟩) (fun _ R s => H s.heap ∧
      R (.ok (.ret (.ref (s.heap.push o).objs.size))) { s with heap := (s.heap.push o).push { cls := .type "enumerate", data := .fields #[.none, .bool false, .ref s.heap.objs.size, rawInt 0, .none, .none] } }) :=
  .of_wp fun prog w A R s h => by
    obtain ⟨hp, g, d, tk, os⟩ := s; obtain ⟨h1, h⟩ := h
    have hsub := sub_enumerate
    have q1 : ∀ {A' : Around} {E : Value → Shared → Prop} {Q : Value → Shared → Prop}, Q (.ref hp.objs.size) ⟨hp.push o, g, d, tk, os⟩ → wpAny (model prog w) A' (pyIter v) Q E ⟨hp, g, d, tk, os⟩ :=
      fun q => B.iter prog w _ _ ⟨hp, g, d, tk, os⟩ _ h1 q
    wp_walk using q1
    refine wpAny_stack_any fun st => wpAny_pure ?_
    split
    · rename_i c _ _ _ _ _
      cases (c == Value.type "enumerate") <;> (wp_walk using q1; exact ⟨_, rfl, h⟩)
    · wp_walk using q1
      exact ⟨_, rfl, h⟩
theorem tp_enum_begins {prog : Program} {w : World} {A : Around} {E : Value → Shared → Prop} {s : Shared} {v : Value} {o : Obj} {H : Heap → Prop} {Q : Value → Shared → Prop} (B : Begins v o H) (h1 : H s.heap)
    (h : ∀ h', IsEnum h' (s.heap.objs.size + 1) s.heap.objs.size 0 .none → h'.get? s.heap.objs.size = some o → h'.objs.size = s.heap.objs.size + 2 →
      (∀ b o, s.heap.get? b = some o → h'.get? b = some o) → Q (.ref (s.heap.objs.size + 1)) { s with heap := h' }) :
    wpAny (model prog w) A (call (.type "enumerate") [v]) Q E s := by
  refine callType_new F.called_enumerate (by decide) (F.typeCall_enumerate_1 _) (F.newCall_enumerate_1 _) (fun obj => F.args_object_init_2 obj _) F.entry_enumerate_new (tp_enum_new B) ⟨h1, ?_⟩
  have hz : (s.heap.push o).objs.size = s.heap.objs.size + 1 := Heap.size_push ..
  show _ ∧ _
  rw [hz]
  have he : IsEnum ((s.heap.push o).push { cls := .type "enumerate", data := .fields #[.none, .bool false, .ref s.heap.objs.size, rawInt 0, .none, .none] }) (s.heap.objs.size + 1) s.heap.objs.size 0 .none := by
    have q := Heap.get?_push_size (s.heap.push o) (o := { cls := .type "enumerate", data := .fields #[.none, .bool false, .ref s.heap.objs.size, rawInt 0, .none, .none] }) rfl
    rw [hz] at q; exact q
  exact ⟨⟨_, he, rfl⟩, h _ he (Heap.get?_push_of_some _ (Heap.get?_push_size _ B.free)) (by rw [Heap.size_push, hz]) fun b o x => Heap.get?_push_of_some _ (Heap.get?_push_of_some _ x)⟩
end PySem
namespace TP
open PySem PySem.Spec PyProof.Rows L2
theorem istuple_of {h : Heap} {a : Addr} {items : Array Value} (p : IsTup h a items) : h.IsTuple a items := by
  obtain ⟨o, ho, hc, n, hd⟩ := p
  exact ⟨o, ho, hc, n, hd⟩
theorem turn_enumT {P : Program} {w : World} {K : PySem.W.Frag} {elts : List Expr} {kk : Nat} {tpos : Pos} (a e it : Addr) :
    Turn P w K (.Tuple elts kk tpos) (IteT K a) [e, it] e (fun i h => (∃ old, IsEnum h e it ((i : Nat) : Int) old) ∧ h.IsTupleIter it a i ∧ e ≠ it) where
  mem := by simp
  obj := fun i h st b hb => by
    obtain ⟨⟨old, he⟩, ⟨o, ho, hc, hd⟩, _⟩ := st
    rcases (show b = e ∨ b = it by simpa using hb) with z | z
    · rw [z]; exact ⟨_, he, fun v q => nomatch q⟩
    · rw [z]; exact ⟨o, ho, fun v q => by rw [hd] at q; cases q⟩
  keep := fun i h h' st k => let ⟨⟨old, he⟩, hi, hne⟩ := st; ⟨⟨old, k e (by simp) _ he⟩, hi.at fun o q => k it (by simp) o q, hne⟩
  item := by
    intro X hP hw hK hc i pins s σ H E I hf st hg
    subst hP hw hK
    obtain ⟨⟨old, he⟩, hit, hne⟩ := st
    obtain ⟨xs, x, hq, hx⟩ := hg
    obtain ⟨its, rv, p, hz⟩ := I.tuple hq
    obtain ⟨u, hu, ru⟩ := rv.get hx
    have hel : e < s.heap.objs.size := Heap.lt_size he
    have hil : it < s.heap.objs.size := by obtain ⟨_, q, _⟩ := hit; exact Heap.lt_size q
    have hta := istuple_of p
    have nai : a ≠ it := fun z => by
      subst z
      obtain ⟨o1, h1, c1, _⟩ := hit
      obtain ⟨o2, h2, c2, _⟩ := hta
      rw [h1] at h2; cases h2
      rw [c1] at c2
      exact absurd (Value.type.inj c2) (by decide)
    have nae : a ≠ e := fun z => by
      subst z
      obtain ⟨o2, h2, c2, _⟩ := hta
      have h1 : s.heap.get? a = some _ := he
      rw [h1] at h2; cases h2
      exact absurd (Value.type.inj c2) (by decide)
    have D := Draws.tuple (prog := X.prog) (w := X.w) (A := X.A.in1) (by have := I.ok.hd hc; exact this) it a nai its.toArray
    have hlt : i < its.toArray.size := by
      obtain ⟨hh, _⟩ := List.getElem?_eq_some_iff.mp hu
      simpa using hh
    refine wpAny_pyNext_enum_itemD D he ⟨hit, hta⟩ hlt hne (by simp [Ne.symm nae, hne]) fun x' h' tk hx' ho hst' hT hsz hk => ?_
    have ex : x' = u := by
      have : its.toArray[i]? = some x' := hx'
      have q : its[i]? = some x' := by simpa using this
      rw [hu] at q; cases q; rfl
    subst ex
    refine ⟨_, rfl, wpAny_letOwnedTupleGo_enum (s := { s with heap := h', toks := tk + 1 }) ho fun h'' he' sb => ?_⟩
    have hT2 : h''.get? s.heap.objs.size = some { cls := .type "tuple", data := .seq #[.int i tk, x'] } := (sb.2 _ (Nat.ne_of_gt hel)).trans hT
    have new : ObjOk X.prog X.w (upd H s.heap.objs.size (.tup [.int (i : Nat), x])) h'' s.heap.objs.size (.tup [.int (i : Nat), x]) :=
      ⟨by show 2 ≤ sizeLine; decide, [.int i tk, x'], .cons ⟨_, rfl⟩ (.cons ru .nil), ⟨_, hT2, rfl, _, rfl⟩⟩
    have I1 : Inv X pins σ (upd H s.heap.objs.size (.tup [.int (i : Nat), x])) { s with heap := h'', toks := tk + 1 } :=
      I.turnedNew (ch := [e, it]) (fun b ob hb q => (sb.2 b (fun z => hb (by simp [z]))).trans (hk b ob (fun z => hb (by simp [z])) (fun z => hb (by simp [z])) q)) hf (Nat.le_refl _) new
    refine ⟨.ref s.heap.objs.size, _, I1, rfl, ⟨_, x, rfl, I.hok.fresh (Nat.le_refl _), rfl, fun ys hy => by rw [I.tuple_inj hy hq]; exact hx⟩, ⟨⟨x', ?_⟩, hst'.1.at fun o q => (sb.2 it (Ne.symm hne)).trans q, hne⟩, fun b hb => ?_⟩
    · have e1 : ((i + 1 : Nat) : Int) = (i : Int) + 1 := by omega
      rw [e1]; exact he'
    · have hb' : b < s.heap.objs.size := by
        rcases (show b = e ∨ b = it by simpa using hb) with z | z
        · rw [z]; exact hel
        · rw [z]; exact hil
      rw [upd_ne (Nat.ne_of_lt hb')]
      exact (hf b hb).1
  done := by
    intro X hP hw hK hc i pins s σ H E I hf st hg
    subst hP hw hK
    obtain ⟨⟨old, he⟩, hit, hne⟩ := st
    obtain ⟨xs, hq, hx⟩ := hg
    obtain ⟨its, rv, p, hz⟩ := I.tuple hq
    obtain ⟨f0, f1, f2, f3, f4, f5⟩ := hf it (by simp)
    have hl := rv.length
    have hta := istuple_of p
    have nai : a ≠ it := fun z => by
      subst z
      obtain ⟨o1, h1, c1, _⟩ := hit
      obtain ⟨o2, h2, c2, _⟩ := hta
      rw [h1] at h2; cases h2
      rw [c1] at c2
      exact absurd (Value.type.inj c2) (by decide)
    have D := Draws.tuple (prog := X.prog) (w := X.w) (A := X.A.in1) (by have := I.ok.hd hc; exact this) it a nai its.toArray
    have hi : i = its.toArray.size := by simp; omega
    exact wpAny_pyNext_enum_endD D he ⟨by rw [← hi]; exact hit, hta⟩ fun h' eb => ⟨rfl, I.turned (t' := s.toks) (fun b o hb q => eb b o hb q) f0 f1 f3 f4 f5⟩
  self := fun A i s Q E st h => let ⟨⟨_, he⟩, _⟩ := st; wpAny_pyIter_enum he h
theorem pi_enumT {X : Cx} {e : Expr} {ta : TA} {p pos tpos : Pos} {elts : List Expr} {kk : Nat} (hg : Gl X "enumerate") (hm : X.mg "enumerate" = none) (ha : PA X [e] ta) (hs : starEach [e] X.env = [(false, eval e X.env)] := by rfl) :
    PI X (.Tuple elts kk tpos) (.Call (.Name "enumerate" p) [e] [] pos) (iEnumT X.K ta) := by
  refine ⟨fun pins s σ H R I h => ?_⟩
  refine Call_ (ld_blt I hg hm boot_enumerate (PyProof.Rows.callWith_type1 (thn (ha.run pos pins s σ H _ I h) fun us s1 ⟨vs, H1, I1, r1, q1⟩ => ?_) hs rfl))
  obtain ⟨a, xs, ex, hq, q⟩ := q1
  subst ex
  obtain ⟨u, rfl, ru⟩ := vals1 r1
  have eu : u = .ref a := ru
  subst eu
  obtain ⟨its, rv, p', hz⟩ := I1.tuple hq
  refine tp_enum_begins (begins_tuple a its.toArray) (istuple_of p') fun h' he hit hsz hk => wpAny_pyIter_enum he ?_
  have I2 : Inv X pins σ H1 { s1 with heap := h' } := I1.kept (t' := s1.toks) hk
  refine ⟨s1.heap.objs.size + 1, [s1.heap.objs.size + 1, s1.heap.objs.size], _, _, H1, rfl, I2, turn_enumT a (s1.heap.objs.size + 1) s1.heap.objs.size, ⟨⟨.none, he⟩, ⟨_, hit, rfl, rfl⟩, Nat.succ_ne_self _⟩, fun b hb => ?_, q⟩
  have hle : s1.heap.objs.size ≤ b := by
    rcases (show b = s1.heap.objs.size + 1 ∨ b = s1.heap.objs.size by simpa using hb) with z | z
    · rw [z]; exact Nat.le_add_right _ _
    · rw [z]; exact Nat.le_refl _
  exact I1.fpOk hle (I1.hok.fresh hle)
theorem walk_enumT {K : PySem.W.Frag} {a : Addr} {xs : List V} : Walk (IteT K a) xs.length (fun H => SqT K H a xs) (YPair (fun i => some (.int (i : Nat))) (fun i => xs[i]?)) where
  goes := fun i H hi h => by
    obtain ⟨x, hx⟩ : ∃ x, xs[i]? = some x := ⟨_, List.getElem?_eq_getElem hi⟩
    exact ⟨xs, x, h, hx⟩
  stops := fun H h => ⟨xs, h, rfl⟩
  yields := fun i H v H' _ h ⟨T, x, e1, e2, e3, e4⟩ => ⟨T, .int (i : Nat), x, e1, e2, e3, rfl, e4 xs h⟩
end TP

namespace TP
open PySem PySem.Spec PyProof.Rows L2
theorem w_repr {K : PySem.W.Frag} {H : Hp} {Q : VK} {v : V} {d : PyData} (h : Dp K H v d) (s : Shows d) (q : Q (.str d.shown) H) : rRepr K [v] H Q := ⟨v, d, rfl, h, s, q⟩
theorem call_repr {X : Cx} (hg : X.A.guards = some []) (hu : X.A.units + 64 < cLine) : CallR X (.builtin "repr") (rRepr X.K) := by
  intro pins s σ H xs us Q I r h
  obtain ⟨v, d, rfl, hd, hs, q⟩ := h
  obtain ⟨u, rfl, ru⟩ := vals1 r
  have hz : d.shown.length ≤ sizeLine := Nat.le_trans (shown_le d hs.ok) (Nat.le_trans hs.len (by rw [sizeLine_eq]; exact Nat.le_refl _))
  obtain ⟨s1, s2⟩ := showable_of d hs.ok
  have big : ∀ a, u = .ref a → wpAny (model X.prog X.w) X.A (call (.builtin "repr") [u]) (EP X pins σ Q) X.xe s := fun a e => by
    subst e
    obtain ⟨as, rd⟩ := Dp.reads I d v _ hd ru
    refine repr_of_reads' rd s1 (fun z => by rw [s2] at z; cases z) hg (by have := hs.deep; omega) (fun _ _ e => e) (fun h' w' tk hk => ?_) hz
    exact ⟨.str d.shown, H, I.kept (t' := tk) hk, ⟨_, rfl⟩, q⟩
  cases hd with
  | non =>
    have e : u = .none := ru
    subst e
    exact PySem.P.repr_of_none ⟨.str _, H, I.tok _, ⟨_, rfl⟩, q⟩
  | bl b =>
    have e : u = .bool b := ru
    subst e
    refine PySem.P.repr_of_bool ⟨.str _, H, I.tok _, ⟨_, rfl⟩, ?_⟩
    cases b <;> exact q
  | int i =>
    obtain ⟨t, rfl⟩ := ru
    refine PySem.P.repr_of_int ?_ ⟨.str _, H, I.tok _, ⟨_, rfl⟩, q⟩
    simpa [okD] using hs.ok
  | str x =>
    obtain ⟨t, rfl⟩ := ru
    exact PySem.P.repr_of_str ⟨.str _, H, I.tok _, ⟨_, rfl⟩, q⟩ hz
  | lst _ _ => exact big _ ru
  | tup _ _ => exact big _ ru
/-- isinstance of a value of that type -/
theorem w_isi {K : PySem.W.Frag} {H : Hp} {Q : VK} {v : V} {t T : String} {b : Bool} (h : TyX K H v (.type t)) (e : kitB t T = some b) (q : Q (.bl b) H) : rIsi K [v, .ty T] H Q := ⟨v, .ty T, .type t, .type T, b, rfl, .ty T, h, kit_ty e, q⟩
theorem foldl_cat (l : List (Array Nat)) : ∀ acc : Array Nat, l.foldl (· ++ ·) acc = acc ++ ((l.map Array.toList).flatten).toArray := by
  induction l with
  | nil => intro acc; simp
  | cons a r ih => intro acc; rw [List.foldl_cons, ih]; apply Array.ext'; simp
theorem op_mul_str {X : Cx} : OpR X (binaryOp .Mult) (fun x y H Q => ∃ (z : Str) (n : Nat), x = .str z ∧ y = .int (n : Nat) ∧ z.length * n ≤ 100000 ∧ n ≤ 100000 ∧ Q (.str (repS n z)) H) := by
  intro pins s σ H x y v u Q I rx ry h
  obtain ⟨z, n, rfl, rfl, hz, hn, q⟩ := h
  obtain ⟨t, rfl⟩ := rx
  obtain ⟨t', rfl⟩ := ry
  refine PySem.P.mul_str ?_ (fun _ _ => ?_) (fun _ _ => ?_) ?_
  · rw [decide_eq_false (show ¬ ((n : Int) < -(2 ^ 63)) by omega), decide_eq_false (show ¬ ((n : Int) ≥ 2 ^ 63) by omega)]; rfl
  · rename_i h1 h2
    have hn1 : 1 ≤ n := by omega
    have hz2 : (z.length : Int) * (n : Int) ≤ 100000 := by
      have q := Int.ofNat_le.mpr hz
      rw [Int.natCast_mul] at q
      exact q
    have hd : (z.length : Int) ≤ (2 ^ 63 - 1) / (n : Int) := Int.le_ediv_of_mul_le (by omega) (by omega)
    omega
  · unfold Builtin.Str.tooLong
    have e : ((n : Int)).toNat = n := by omega
    rw [e]
    exact decide_eq_false (by have := sz_le hz; omega)
  · have e : ((n : Int)).toNat = n := by omega
    rw [e]
    have fin : ∀ y : Str, y = repS n z → Made.post (Made.str y) (EP X pins σ Q) s := fun y ey => by
      subst ey
      refine ⟨?_, .str _, H, I.tok _, ⟨_, rfl⟩, q⟩
      show (repS n z).length ≤ sizeLine
      have el : (repS n z).length = z.length * n := by
        show ((List.replicate n z.cps.toList).flatten).toArray.size = z.cps.size * n
        simp [Nat.mul_comm]
      rw [el]; exact sz_le hz
    by_cases h1 : (n : Int) < 1
    · rw [if_pos h1]
      refine fin _ ?_
      have : n = 0 := by omega
      subst this
      rfl
    · rw [if_neg h1]
      by_cases h2 : ((n : Int) == 1 || z.length == 0) = true
      · rw [if_pos h2]
        have ez : z = repS n z := by
          rcases Bool.or_eq_true_iff.mp h2 with h3 | h3
          · have : n = 1 := by have := eq_of_beq h3; omega
            subst this
            unfold repS
            simp
          · have h4 : z.cps.size = 0 := by simpa [Str.length] using h3
            have h5 : z.cps = #[] := Array.eq_empty_of_size_eq_zero h4
            unfold repS
            cases z with
            | mk c =>
              have h6 : c = #[] := h5
              subst h6
              simp
        refine ⟨.str z, H, I, ⟨t, rfl⟩, ?_⟩
        rw [ez]
        rw [← ez]
        rw [← ez] at q
        exact q
      · rw [if_neg h2]
        refine fin _ ?_
        unfold repS
        rw [foldl_cat]
        simp
end TP

namespace TP
open PySem PySem.Spec PyProof.Rows L2
section
variable {P : Program} {w : World} {H H0 : Hp} {h h' : Heap} {p : Addr}
theorem objok_retrack {o u : HO} {a : Addr} (hp : H p = some o) (no : ∀ y, o ≠ .own y) (nt : ∀ xs, o ≠ .tup xs) {v : HO} (x : ObjOk P w H h a v) : ObjOk P w (upd H p u) h a v := by
  refine x.stay (fun b w' _ e => e) (fun b e => ?_) fun b xs e => ?_
  · exact (upd_ne (ne_of e hp fun z => no a z.symm)).trans e
  · exact (upd_ne (ne_of e hp fun z => nt xs z.symm)).trans e
theorem hok_retrack {o u : HO} (ok : HOk P w H h) (hp : H p = some o) (no : ∀ y, o ≠ .own y) (nt : ∀ xs, o ≠ .tup xs) (new : ObjOk P w (upd H p u) h p u) : HOk P w (upd H p u) h := fun a v e => by
  by_cases z : a = p
  · subst z; rw [upd_same] at e; cases e; exact new
  · rw [upd_ne z] at e
    exact objok_retrack hp no nt (ok a v e)
theorem pool_of_lst {s d c : Int} (ok : HOk P w H h) (hp : H p = some (.lst [.int s, .int d, .int c])) (hv : PoolV s d c) : HOk P w (upd H p (poolO p)) h := by
  refine hok_retrack ok hp (fun _ => nofun) (fun _ => nofun) ?_
  obtain ⟨_, its, n, r, e⟩ := ok p _ hp
  exact ⟨⟨s, d, c, its, n, r, hv, e⟩, ⟨_, e⟩, fun h1 h2 ⟨s, d, c, its, n, r, hv, e⟩ k => ⟨s, d, c, its, n, r, hv, k _ e⟩⟩
theorem lst_of_pool (ok : HOk P w H h) (hp : H p = some (poolO p)) : ∃ s d c, PoolV s d c ∧ HOk P w (upd H p (.lst [.int s, .int d, .int c])) h := by
  obtain ⟨⟨s, d, c, its, n, r, hv, e⟩, _, _⟩ := ok p _ hp
  exact ⟨s, d, c, hv, hok_retrack ok hp (fun _ => nofun) (fun _ => nofun) ⟨by show 3 ≤ sizeLine; decide, its, n, r, e⟩⟩
theorem un_retrack {fs ex : List Addr} {o u : HO} (un : Un fs ex H0 H h h') (hp : H p = some o) (nt : ∀ xs, o ≠ .tup xs) (nf : ∀ a b, o ≠ .frz a b) (nb : ∀ ps, o ≠ .tbl ps) : Un fs ex H0 (upd H p u) h h' where
  keep := un.keep
  slot := un.slot
  free := fun b ob e n hx => by
    have z := un.free b ob e n hx
    rw [upd_ne (fun q => by rw [q, hp] at z; cases z)]; exact z
  there := un.there
  tups := fun b xs e => by have z := un.tups b xs e; exact (upd_ne (ne_of z hp fun q => nt xs q.symm)).trans z
  frzs := fun b ob v e => by have z := un.frzs b ob v e; exact (upd_ne (ne_of z hp fun q => nf _ _ q.symm)).trans z
  tbls := fun b ps e => by
    obtain ⟨more, z⟩ := un.tbls b ps e
    exact ⟨more, (upd_ne (ne_of z hp fun q => nb _ q.symm)).trans z⟩
/-- the entry's abstract heap told otherwise at p -/
theorem un_retrack0 {fs ex : List Addr} {o u : HO} (un : Un fs ex (upd H0 p u) H h h') (hp : H0 p = some o) (nt : ∀ xs, o ≠ .tup xs) (nf : ∀ a b, o ≠ .frz a b) (nb : ∀ ps, o ≠ .tbl ps) : Un fs ex H0 H h h' := by
  have off : ∀ b, H0 b = none → upd H0 p u b = none := fun b n => by rw [upd_ne (fun q => by rw [q, hp] at n; cases n)]; exact n
  refine ⟨fun b ob e n => un.keep b ob e (off b n), fun b ob e n => un.slot b ob e (off b n), fun b ob e n => un.free b ob e (off b n), un.there, fun b xs e => un.tups b xs ?_, fun b ob v e => un.frzs b ob v ?_, fun b ps e => un.tbls b ps ?_⟩
  · exact (upd_ne (ne_of e hp fun q => nt xs q.symm)).trans e
  · exact (upd_ne (ne_of e hp fun q => nf _ _ q.symm)).trans e
  · exact (upd_ne (ne_of e hp fun q => nb _ q.symm)).trans e
theorem env_retrack {K : PySem.W.Frag} {mg : Str → Option Value} {base : Heap} {A : Around} {outer : List Env} {s : Shared} {o u : HO} (e0 : Env0 P w K mg base A outer s H) (hp : H p = some o) (ok : HOk P w (upd H p u) s.heap) : Env0 P w K mg base A outer s (upd H p u) := by
  have off : ∀ b, H b = none → upd H p u b = none := fun b n => by rw [upd_ne (fun q => by rw [q, hp] at n; cases n)]; exact n
  exact ⟨e0.frames, e0.mod, fun b ob e => ⟨(e0.bs b ob e).1, off b (e0.bs b ob e).2⟩, e0.bsz, e0.funs, fun b hb => off b (e0.frf b hb), ok, e0.bare⟩
end
section
variable {P : Program} {w : World} {K : PySem.W.Frag} {mg : Str → Option Value} {base : Heap} {k : Nat} {f : Addr} {fd : FuncData} {ps : List Str}
theorem draw_wrap (F : FnG P w K mg base CX0 k f fd ps spDrawC) (hl : ps.length = 2) : FnG P w K mg base CX0 k f fd ps spDraw := by
  refine ⟨fun vs H Q E ⟨p, m, e, _⟩ => by rw [e, hl]; rfl, fun A outer s H args us vs Q E hr hg e0 hb r hsp => ?_⟩
  obtain ⟨p, m, rfl, hp, m0, m1, q⟩ := hsp
  obtain ⟨s0, d0, c0, hv, ok1⟩ := lst_of_pool e0.hok hp
  refine codeAny_mono (F.run A outer s (upd H p (.lst [.int s0, .int d0, .int c0])) args us [.ref p, .int m] (fun v H1 => ∃ (r s' d' c' : Int), v = .int r ∧ 0 ≤ r ∧ r < m ∧ SameB p (upd H p (.lst [.int s0, .int d0, .int c0])) H1 ∧ H1 p = some (.lst [.int s', .int d', .int c']) ∧ PoolV s' d' c') E hr hg (env_retrack e0 hp ok1) hb r
    ⟨p, s0, d0, c0, m, rfl, upd_same, hv, m0, m1, fun r s' d' c' H' h0 h1 sb hq hv' => ⟨r, s', d', c', rfl, h0, h1, sb, hq, hv'⟩⟩) fun z s' hz => ?_
  cases z with
  | error e => exact hz
  | ok fl =>
    cases fl with
    | next => exact hz
    | brk => exact hz
    | cont => exact hz
    | ret u =>
      obtain ⟨v, H1, os, bare, un, hok1, rv, r, s2, d2, c2, rfl, h0, h1, sb, hq, hv2⟩ := hz
      refine ⟨.int r, upd H1 p (poolO p), os, bare, ?_, pool_of_lst hok1 hq hv2, rv, q r _ h0 h1 fun b o e => ?_⟩
      · exact un_retrack0 (un_retrack un hq (fun _ => nofun) (fun _ _ => nofun) fun _ => nofun) hp (fun _ => nofun) (fun _ _ => nofun) fun _ => nofun
      · by_cases z : b = p
        · subst z; rw [hp] at e; cases e; exact upd_same
        · rw [upd_ne z]; exact sb b o z ((upd_ne z).trans e)
theorem pool_wrap (F : FnG P w K mg base CX0 k f fd ps spPoolC) (hl : ps.length = 1) : FnG P w K mg base CX0 k f fd ps spPool := by
  refine ⟨fun vs H Q E ⟨n, e, _⟩ => by rw [e, hl]; rfl, fun A outer s H args us vs Q E hr hg e0 hb r hsp => ?_⟩
  obtain ⟨n, rfl, q⟩ := hsp
  refine codeAny_mono (F.run A outer s H args us [.int n] (fun v H1 => ∃ (p : Addr) (s' d' c' : Int), v = .ref p ∧ H p = none ∧ Same H H1 ∧ H1 p = some (.lst [.int s', .int d', .int c']) ∧ PoolV s' d' c') E hr hg e0 hb r
    ⟨n, rfl, fun p s' d' c' H' h0 sb hq hv' => ⟨p, s', d', c', rfl, h0, sb, hq, hv'⟩⟩) fun z s' hz => ?_
  cases z with
  | error e => exact hz
  | ok fl =>
    cases fl with
    | next => exact hz
    | brk => exact hz
    | cont => exact hz
    | ret u =>
      obtain ⟨v, H1, os, bare, un, hok1, rv, p, s2, d2, c2, rfl, h0, sb, hq, hv2⟩ := hz
      refine ⟨.ref p, upd H1 p (poolO p), os, bare, ?_, pool_of_lst hok1 hq hv2, rv, q p _ h0 (fun b o e => ?_) upd_same⟩
      · exact un_retrack un hq (fun _ => nofun) (fun _ _ => nofun) fun _ => nofun
      · rw [upd_ne (ne_of_none e h0)]; exact sb b o e
end
section
variable {P : Program} {w : World} {K : PySem.W.Frag} {mg : Str → Option Value} {base : Heap} {k : Nat} {x : Str} {st : Stmt} {ps : List Str}
theorem has_draw (F : Has P w K mg base CX0 k x st ps spDrawC) (hl : ps.length = 2) : Has P w K mg base CX0 k x st ps spDraw := by
  obtain ⟨fd, D, G⟩ := F.ex
  exact ⟨⟨fd, D, draw_wrap G hl⟩, F.glo⟩
theorem has_pool (F : Has P w K mg base CX0 k x st ps spPoolC) (hl : ps.length = 1) : Has P w K mg base CX0 k x st ps spPool := by
  obtain ⟨fd, D, G⟩ := F.ex
  exact ⟨⟨fd, D, pool_wrap G hl⟩, F.glo⟩
end
section
variable {J : It} {n : Nat} {G : Hp → Prop} {Y : Nat → Hp → V → Hp → Prop} {g : TG} {tt : TT} {te : TE} {vs : List Nat} {σ : L2.St} {H1 : Hp} {D : Addr} {Q : VK}
end
end TP

namespace TP
open PySem PySem.Spec PyProof.Rows L2
section
variable {J : It} {n : Nat} {G : Hp → Prop} {Y : Nat → Hp → V → Hp → Prop} {g : TG} {tt : TT} {te : TE} {tb : TS} {De : Ends} {wi : TI} {vs : List Nat} {σ : L2.St} {H H1 H2 : Hp} {D : Addr} {Q : VK} {Acc : Nat → List V → Hp → Prop} {K : PySem.W.Frag}
theorem w_for (h : wi σ H fun J H1 => ForOk J g tb De σ H1) : tFor wi g tb De σ H := h
theorem w_lc (h : wi σ H fun J H1 => ∀ D, H1 D = none → LcOk J g tt te vs σ H1 D Q) : tLc wi g tt te vs σ H Q := h
theorem w_yes {QB : Bool → Hp → Prop} (h : QB true H) : tYes σ H QB := h
theorem for_go (w : Walk J n G Y) (Pv : Nat → L2.St → Hp → Prop) (h0 : Pv 0 σ H) (hG : ∀ i σ H, i ≤ n → Pv i σ H → G H)
    (hs : ∀ i x σ H H', i < n → Pv i σ H → Y i H x H' → g x σ H' fun σ2 H2 => tb { De with nx := Pv (i + 1), ct := Pv (i + 1), bk := De.nx } σ2 H2) (hd : ∀ σ H, Pv n σ H → De.nx σ H) : ForOk J g tb De σ H := for_it w Pv h0 hG hs hd
theorem lc_go (w : Walk J n G Y) (Acc : Nat → List V → Hp → Prop) (hD : H1 D = none) (hG : ∀ H, Same H1 H → G H) (h0 : Acc 0 [] (upd H1 D (.lst [])))
    (hs : ∀ i x H H' acc, i < n → Same H1 H → H D = some (.lst acc) → acc.length ≤ i → Acc i acc H → Y i H x H' → g x (wipe σ vs) H' fun σ2 H2 => wipe σ2 vs = wipe σ vs ∧ tt σ2 H2 fun b H3 =>
      if b = true then te σ2 H3 fun y H4 => LcY H1 D Acc i y H4 else LcI H1 D Acc (i + 1) H3)
    (hd : ∀ acc H, Same H1 H → H D = some (.lst acc) → acc.length ≤ n → Acc n acc H → Q (.ref D) H) : LcOk J g tt te vs σ H1 D Q :=
  lc_it w (fun i H => LcI H1 D Acc i H) ⟨[], same_new hD, upd_same, Nat.le_refl _, h0⟩ (fun i H _ ⟨_, s, _⟩ => hG H s) (fun i x H H' hi ⟨acc, s, e, l, a⟩ hy => hs i x H H' acc hi s e l a hy) fun H ⟨acc, s, e, l, a⟩ => hd acc H s e l a
theorem lc_y {i : Nat} {y : V} {acc : List V} (hD : H1 D = none) (s : Same H1 H) (e : H D = some (.lst acc)) (l : acc.length ≤ i) (hi : i < 100000) (a : Acc (i + 1) (acc ++ [y]) (upd H D (.lst (acc ++ [y])))) : LcY H1 D Acc i y H :=
  ⟨acc, e, sz_lt (by omega), acc ++ [y], same_mut s hD, upd_same, by simp; omega, a⟩
/-- each element by its place: scalars, or anything that does not lean on the heap -/
theorem lc_map (w : Walk J n G Y) (hn : n ≤ 100000) (f : Nat → V → Prop) (hD : H1 D = none) (hG : ∀ H, Same H1 H → G H)
    (hs : ∀ i x H H', i < n → Same H1 H → Y i H x H' → ∀ Qy : VK, (∀ y H4, Same H H4 → f i y → Qy y H4) → g x (wipe σ vs) H' fun σ2 H2 => wipe σ2 vs = wipe σ vs ∧ te σ2 H2 Qy)
    (hd : ∀ acc H, Same H1 H → H1 D = none → H D = some (.lst acc) → acc.length = n → (∀ i y, acc[i]? = some y → f i y) → Q (.ref D) H)
    (mono : ∀ {x σ H} {Q Q' : L2.St → Hp → Prop}, (∀ σ H, Q σ H → Q' σ H) → g x σ H Q → g x σ H Q') : LcOk J g tYes te vs σ H1 D Q := by
  let AccM : Nat → List V → Hp → Prop := fun i acc H => acc.length = i ∧ ∀ (j : Nat) (y : V), acc[j]? = some y → f j y
  refine lc_go w AccM hD hG ⟨rfl, fun j y e => by simp at e⟩ (fun i x H H' acc hi s e l a hy => ?_) fun acc H s e _ a => hd acc H s hD e a.1 a.2
  refine mono (fun σ2 H2 q => ⟨q.1, ?_⟩) (hs i x H H' hi s hy (fun y H4 => LcY H1 D AccM i y H4) fun y H4 s4 fy => lc_y (Acc := AccM) hD (s.trans s4) (s4 _ _ e) l (by omega) ⟨by simp [a.1], fun j z ej => ?_⟩)
  · exact w_yes (w_iteT q.2)
  · by_cases q : j < acc.length
    · rw [List.getElem?_append_left q] at ej; exact a.2 j z ej
    · rw [List.getElem?_append_right (Nat.le_of_not_lt q)] at ej
      have q2 : j = acc.length := by
        obtain ⟨h1, _⟩ := List.getElem?_eq_some_iff.mp ej
        simp at h1; omega
      subst q2
      simp at ej
      subst ej
      rw [a.1]; exact fy
theorem mono_gname {j : Nat} : ∀ {x σ H} {Q Q' : L2.St → Hp → Prop}, (∀ σ H, Q σ H → Q' σ H) → gName j x σ H Q → gName j x σ H Q' := fun h q => h _ _ q
variable {R : It → Hp → Prop} {ta : TA} {a : Addr} {xs : List V}
theorem w_iTup (h : te σ H (OnT K R)) : iTup K te σ H R := h
theorem w_iList (h : te σ H (OnL K R)) : iList K te σ H R := h
theorem w_iStr (h : te σ H (OnS R)) : iStr te σ H R := h
theorem w_iRng1 (h : ta σ H (OnR1 R)) : iRng1 ta σ H R := h
theorem w_iRng2 (h : ta σ H (OnR2 R)) : iRng2 ta σ H R := h
theorem w_iEnumT (h : ta σ H (OnE K R)) : iEnumT K ta σ H R := h
theorem w_onT (hs : SqT K H a xs) (h : R (Itt K a) H) : OnT K R (.ref a) H := ⟨a, rfl, ⟨xs, hs⟩, h⟩
theorem w_onL (hs : SqL K H a xs) (h : R (Itl K a) H) : OnL K R (.ref a) H := ⟨a, rfl, ⟨xs, hs⟩, h⟩
theorem w_onS {x : Str} (h : R (Its x) H) : OnS R (.str x) H := ⟨x, rfl, h⟩
theorem w_onR1 {j : Int} (h1 : -(2 ^ 62) ≤ j ∧ j < 2 ^ 62) (h : R (Itr 0 j.toNat) H) : OnR1 R [.int j] H := ⟨j, rfl, h1.1, h1.2, h⟩
theorem w_onE (hs : SqT K H a xs) (h : R (IteT K a) H) : OnE K R [.ref a] H := ⟨a, xs, rfl, hs, h⟩
end
section
variable {X : Cx}
theorem c_len : CallR X (.builtin "len") (rLenV X.K) := call_len
theorem c_abs : CallR X (.builtin "abs") rAbs := call_abs
theorem c_max2 (hc : X.calm = true) : CallR X (.builtin "max") rMx2 := call_max2 hc
theorem c_min2 (hc : X.calm = true) : CallR X (.builtin "min") rMn2 := call_min2 hc
theorem c_int1 : CallR X (.type "int") rInt1 := call_int1
theorem c_tuple : CallR X (.type "tuple") (rTupS X.K) := call_tuple_of
theorem c_divmod : CallR X (.builtin "divmod") rDivW := call_divmodW
theorem o_inSign : OpR X (compareOp .In) rInSign := op_in_sign
theorem o_notInSign : OpR X (compareOp .NotIn) rNotInSign := op_notIn_sign
theorem o_isN : OpR X (compareOp .Is) rIsN := op_isN
theorem o_notN : OpR X (compareOp .IsNot) rNotN := op_notN
theorem o_leS : OpR X (compareOp .LtE) rLeS := op_le_str
theorem o_addS : OpR X (binaryOp .Add) rAddS := op_add_str
theorem o_mulS : OpR X (binaryOp .Mult) rMulS := op_mul_str
end
section
variable {σ : L2.St} {H : Hp} {Q : VK} {K : PySem.W.Frag} {v x y : V} {a p : Addr} {xs ys : List V}
theorem w_lenT (hs : SqT K H a xs) (h : Q (.int (xs.length : Nat)) H) : rLenV K [.ref a] H Q := ⟨_, _, rfl, .inr ⟨xs, hs, rfl⟩, h⟩
theorem w_lenL (hs : SqL K H a xs) (h : Q (.int (xs.length : Nat)) H) : rLenV K [.ref a] H Q := ⟨_, _, rfl, .inl ⟨xs, hs, rfl⟩, h⟩
theorem w_lenS {z : Str} (hz : z.length ≤ sizeLine) (h : Q (.int (z.length : Nat)) H) : rLenV K [.str z] H Q := ⟨_, _, rfl, ⟨hz, rfl⟩, h⟩
theorem w_abs {i : Int} (h : Q (.int (if i < 0 then -i else i)) H) : rAbs [.int i] H Q := ⟨i, rfl, h⟩
theorem w_mx2 {i j : Int} (h : Q (.int (if j > i then j else i)) H) : rMx2 [.int i, .int j] H Q := ⟨i, j, rfl, h⟩
theorem w_mn2 {i j : Int} (h : Q (.int (if j < i then j else i)) H) : rMn2 [.int i, .int j] H Q := ⟨i, j, rfl, h⟩
theorem w_int1 {i : Int} (h : Q (.int i) H) : rInt1 [.int i] H Q := .inl ⟨i, rfl, h⟩
theorem w_tupL (hs : SqL K H a xs) (h : ∀ l, H l = none → Q (.ref l) (upd H l (.tup xs))) : rTupS K [.ref a] H Q := ⟨a, xs, rfl, .inl ⟨hs, h⟩⟩
theorem w_divW {i j : Int} (c : CDivP i j) (h : ∀ p, H p = none → Q (.ref p) (upd H p (.tup [.int (i / j), .int (i % j)]))) : rDivW [.int i, .int j] H Q := ⟨i, j, rfl, c, h⟩
theorem w_inSign {c : Nat} {z : Str} (h : Q (.bl (decide (c ∈ z.cps.toList))) H) : rInSign (.str ⟨#[c]⟩) (.str z) H Q := ⟨c, z, rfl, rfl, h⟩
theorem w_notInSign {c : Nat} {z : Str} (h : Q (.bl (!decide (c ∈ z.cps.toList))) H) : rNotInSign (.str ⟨#[c]⟩) (.str z) H Q := ⟨c, z, rfl, rfl, h⟩
theorem w_isN (h : Q (.bl (decide (x = .non))) H) : rIsN x .non H Q := ⟨rfl, h⟩
theorem w_notN (h : Q (.bl (!decide (x = .non))) H) : rNotN x .non H Q := ⟨rfl, h⟩
theorem w_isNN (h : Q (.bl true) H) : rIsN .non .non H Q := ⟨rfl, h⟩
theorem w_isNI {i : Int} (h : Q (.bl false) H) : rIsN (.int i) .non H Q := ⟨rfl, by have e : decide (V.int i = V.non) = false := decide_eq_false nofun; rw [e]; exact h⟩
theorem w_isNR (h : Q (.bl false) H) : rIsN (.ref a) .non H Q := ⟨rfl, by have e : decide (V.ref a = V.non) = false := decide_eq_false nofun; rw [e]; exact h⟩
theorem w_notNN (h : Q (.bl false) H) : rNotN .non .non H Q := ⟨rfl, h⟩
theorem w_notNI {i : Int} (h : Q (.bl true) H) : rNotN (.int i) .non H Q := ⟨rfl, by have e : decide (V.int i = V.non) = false := decide_eq_false nofun; rw [e]; exact h⟩
theorem w_notNR (h : Q (.bl true) H) : rNotN (.ref a) .non H Q := ⟨rfl, by have e : decide (V.ref a = V.non) = false := decide_eq_false nofun; rw [e]; exact h⟩
theorem w_ltS {i j : Str} (h : Q (.bl (decide (i.cps.toList < j.cps.toList))) H) : rLtS (.str i) (.str j) H Q := ⟨i, j, rfl, rfl, h⟩
theorem w_leS {i j : Str} (h : Q (.bl (!decide (j.cps.toList < i.cps.toList))) H) : rLeS (.str i) (.str j) H Q := ⟨i, j, rfl, rfl, h⟩
theorem w_addS {i j : Str} (hz : i.length + j.length ≤ sizeLine) (h : Q (.str (i ++ j)) H) : rAddS (.str i) (.str j) H Q := ⟨i, j, rfl, rfl, hz, h⟩
theorem w_mulS {z : Str} {i : Int} {n : Nat} (e : i = (n : Int)) (h1 : z.length * n ≤ 100000) (h2 : n ≤ 100000) (h : Q (.str (repS n z)) H) : rMulS (.str z) (.int i) H Q := ⟨z, n, rfl, by rw [e], h1, h2, h⟩
theorem w_all {bs : List Bool} (hs : SqL K H a (bs.map V.bl)) (h : Q (.bl (bs.all id)) H) : rAll K [.ref a] H Q := ⟨a, bs, rfl, hs, h⟩
theorem w_any {bs : List Bool} (hs : SqL K H a (bs.map V.bl)) (h : Q (.bl (bs.any id)) H) : rAny K [.ref a] H Q := ⟨a, bs, rfl, hs, h⟩
theorem w_sortedS {ws : List Str} (hs : SqL K H a (ws.map V.str)) (hl : ws.length < 64) (h : ∀ (ys : List Str) (p : Addr), ys.Perm ws → sortedS ys = true → H p = none → Q (.ref p) (upd H p (.lst (ys.map V.str)))) : rSortedS K [.ref a] H Q := ⟨a, ws, rfl, hs, hl, h⟩
theorem w_cat {l b : Addr} {xs zs : List V} (h1 : H l = some (.lst xs)) (h2 : H b = some (.lst zs)) (hz : xs.length + zs.length ≤ sizeLine) (h : ∀ p, H p = none → Q (.ref p) (upd H p (.lst (xs ++ zs)))) : rCat (.ref l) (.ref b) H Q := ⟨l, b, xs, zs, rfl, rfl, h1, h2, hz, h⟩
theorem w_append {l : Addr} (h1 : H l = some (.lst xs)) (hz : xs.length < sizeLine) (h : Q .non (upd H l (.lst (xs ++ [y])))) : rAppend (.ref l) [y] H Q := ⟨l, xs, y, rfl, rfl, h1, hz, h⟩
theorem w_slL {lo hi : Option Int} (hs : SqL K H a xs) (h : ∀ p, H p = none → Q (.ref p) (upd H p (.lst (cutV xs lo hi)))) : rSlL K (.ref a) lo hi H Q := ⟨a, xs, rfl, hs, h⟩
theorem w_slS {z : Str} {lo hi : Option Int} (hz : z.length ≤ sizeLine) (h : Q (.str (cutS z lo hi)) H) : rSlS (.str z) lo hi H Q := ⟨z, rfl, hz, h⟩
theorem w_ixS {z : Str} {i : Int} {c : Nat} (hz : z.length ≤ sizeLine) (ha : atI z.cps.toList i = some c) (h : Q (.str ⟨#[c]⟩) H) : rIxS (.str z) (.int i) H Q := ⟨z, i, c, rfl, rfl, hz, ha, h⟩
theorem w_M1 {r : V → List V → Hp → VK → Prop} {to te : TE} (h : to σ H fun x H1 => (∃ a, x = .str a) ∧ te σ H1 fun y H2 => r x [y] H2 Q) : tM1 r to te σ H Q := h
theorem w_strx {z : Str} {C : Prop} (h : C) : (∃ a, V.str z = .str a) ∧ C := ⟨⟨z, rfl⟩, h⟩
theorem w_tyL {C : Prop} (h1 : H a = some (.lst xs)) (h : C) : tyV K "list" (.ref a) H ∧ C := ⟨.inl ⟨rfl, xs, SqL.of h1⟩, h⟩
theorem w_join {s : Str} {ws : List Str} (hs : SqL K H a (ws.map V.str)) (hz : (ws.map (·.length)).sum + ws.length * s.length ≤ 16777216) (h : Q (.str (Txt.join s ws)) H) : rJoin K (.str s) [.ref a] H Q := ⟨s, a, ws, rfl, rfl, .inl hs, hz, h⟩
theorem w_dget2 {td ty tx : TE} (h : td σ H fun x H1 => ∃ a, x = .ref a ∧ IsD H1 a ∧ ty σ H1 fun y H2 => tx σ H2 fun z H3 => ∃ o, DGet H3 a y o ∧ Q (o.getD z) H3) : tDGet2 td ty tx σ H Q := h
theorem w_dput {td ty tv : TE} {De : Ends} (h : tv σ H fun v H1 => td σ H1 fun x H2 => ty σ H2 fun y H3 => ∃ a H4, x = .ref a ∧ DPut H3 a y v H4 ∧ De.nx σ H4) : sDPut td ty tv De σ H := h
end
end TP

namespace TP
open PySem PySem.Spec PyProof.Rows L2
section
variable {σ : L2.St} {H : Hp} {Q : VK} {QO : Option Int → Hp → Prop} {tr tk : TA} {te : TE} {D : Ends} {sp : Sp} {E : XK}
theorem w_p2 {k : V → V → Prop} {a b : V} (h : k a b) : Par2 k [a, b] := ⟨a, b, rfl, h⟩
theorem w_p3 {k : V → V → V → Prop} {a b c : V} (h : k a b c) : Par3 k [a, b, c] := ⟨a, b, c, rfl, h⟩
theorem w_tpar {i j : Nat} (h : tr σ H fun vs H1 => Par2 (fun v w => D.nx ((σ.set i (some v)).set j (some w)) H1) vs) : tPar i j tr D σ H := h
theorem w_tpar3 {i j l : Nat} (h : tr σ H fun vs H1 => Par3 (fun u v w => D.nx (((σ.set i (some u)).set j (some v)).set l (some w)) H1) vs) : tPar3 i j l tr D σ H := h
theorem w_intC {i : Int} {k : Int → Prop} (h : k i) : IntC (.int i) k := ⟨i, rfl, h⟩
theorem w_tpart (h : te σ H fun x H1 => IntC x fun i => QO (some i) H1) : tPart te σ H QO := h
theorem w_kwC {n m : Nat} {g : {α : Type} → List α → List α → List α} {vs zs : List V} {k : List V → Prop} (h1 : vs.length = n) (h2 : zs.length = m) (h : k (g vs zs)) : KwC n m g vs zs k := ⟨h1, h2, h⟩
theorem w_tcallW {n m : Nat} {g : {α : Type} → List α → List α → List α} (h : tr σ H fun vs H1 => tk σ H1 fun zs H2 => KwC n m g vs zs fun as => sp as H2 Q E) : tCallW sp n m g E tr tk σ H Q := h
end
end TP

namespace TP
open PySem PySem.Spec PyProof.Rows L2
theorem acc_map {α β : Type} {acc : List β} {l : List α} {f : α → β} (hl : acc.length = l.length) (hf : ∀ (i : Nat) (y : β), acc[i]? = some y → ∃ a, l[i]? = some a ∧ y = f a) : acc = l.map f := by
  refine List.ext_getElem? fun i => ?_
  rw [List.getElem?_map]
  cases e : acc[i]? with
  | some y =>
    obtain ⟨a, h1, h2⟩ := hf i y e
    rw [h1, h2]; rfl
  | none =>
    rw [List.getElem?_eq_none (by rw [← hl]; exact List.getElem?_eq_none_iff.mp e)]; rfl
theorem all_map_id {α : Type} (f : α → Bool) (l : List α) : (l.map f).all id = l.all f := by
  rw [List.all_map]; rfl
theorem mono_gpair {K : PySem.W.Frag} {i j : Nat} : ∀ {x : V} {σ : L2.St} {H : Hp} {Q Q' : L2.St → Hp → Prop}, (∀ σ H, Q σ H → Q' σ H) → gTup K 2 (gCons (gName i) (gCons (gName j) gNil)) x σ H Q → gTup K 2 (gCons (gName i) (gCons (gName j) gNil)) x σ H Q' :=
  fun h ⟨a, xs, e, hs, hn, v, r, e1, w, r2, e2, e3, q⟩ => ⟨a, xs, e, hs, hn, v, r, e1, w, r2, e2, e3, h _ _ q⟩
theorem take_succ_snoc {α : Type} : ∀ {l : List α} {i : Nat} {x : α}, l[i]? = some x → l.take (i + 1) = l.take i ++ [x]
  | [], i, x, h => by simp at h
  | a :: l, 0, x, h => by simp at h; subst h; rfl
  | a :: l, i + 1, x, h => by
    have ih := take_succ_snoc (l := l) (i := i) (x := x) (by simpa using h)
    rw [List.take_succ_cons, ih]; rfl
theorem isi_int (d : PyData) : kitB (tyD d) "int" = some (isIntD d) := by
  cases d
  · exact (by decide +kernel : kitB "NoneType" "int" = some false)
  · exact (by decide +kernel : kitB "bool" "int" = some true)
  · exact (by decide +kernel : kitB "int" "int" = some true)
  · exact (by decide +kernel : kitB "str" "int" = some false)
  · exact (by decide +kernel : kitB "list" "int" = some false)
  · exact (by decide +kernel : kitB "tuple" "int" = some false)
  · exact (by decide +kernel : kitB "dict" "int" = some false)
theorem isi_bool (d : PyData) : kitB (tyD d) "bool" = some (isBoolD d) := by
  cases d
  · exact (by decide +kernel : kitB "NoneType" "bool" = some false)
  · exact (by decide +kernel : kitB "bool" "bool" = some true)
  · exact (by decide +kernel : kitB "int" "bool" = some false)
  · exact (by decide +kernel : kitB "str" "bool" = some false)
  · exact (by decide +kernel : kitB "list" "bool" = some false)
  · exact (by decide +kernel : kitB "tuple" "bool" = some false)
  · exact (by decide +kernel : kitB "dict" "bool" = some false)
theorem isi_str (d : PyData) : kitB (tyD d) "str" = some (isStrD d) := by
  cases d
  · exact (by decide +kernel : kitB "NoneType" "str" = some false)
  · exact (by decide +kernel : kitB "bool" "str" = some false)
  · exact (by decide +kernel : kitB "int" "str" = some false)
  · exact (by decide +kernel : kitB "str" "str" = some true)
  · exact (by decide +kernel : kitB "list" "str" = some false)
  · exact (by decide +kernel : kitB "tuple" "str" = some false)
  · exact (by decide +kernel : kitB "dict" "str" = some false)
theorem isi_tup (d : PyData) : kitB (tyD d) "tuple" = some (isTupD d) := by
  cases d
  · exact (by decide +kernel : kitB "NoneType" "tuple" = some false)
  · exact (by decide +kernel : kitB "bool" "tuple" = some false)
  · exact (by decide +kernel : kitB "int" "tuple" = some false)
  · exact (by decide +kernel : kitB "str" "tuple" = some false)
  · exact (by decide +kernel : kitB "list" "tuple" = some false)
  · exact (by decide +kernel : kitB "tuple" "tuple" = some true)
  · exact (by decide +kernel : kitB "dict" "tuple" = some false)
theorem szDs_get : ∀ {ds : List PyData} {i : Nat} {d : PyData}, szDs ds = true → ds[i]? = some d → szD d = true
  | [], i, d, _, e => by simp at e
  | a :: r, 0, d, h, e => by
    simp at e; subst e
    exact (Bool.and_eq_true_iff.mp (show (szD a && szDs r) = true from h)).1
  | a :: r, i + 1, d, h, e => szDs_get (i := i) (Bool.and_eq_true_iff.mp (show (szD a && szDs r) = true from h)).2 (by simpa using e)
theorem mem_letters (c : Nat) : decide (c ∈ letters.cps.toList) = isLet c := by
  have e : letters.cps.toList = [97, 98, 99, 100, 101, 102, 103, 104, 105, 106, 107, 108, 109, 110, 111, 112, 113, 114, 115, 116, 117, 118, 119, 120, 121, 122] := by decide +kernel
  rw [e]
  unfold isLet
  by_cases h : 97 ≤ c ∧ c ≤ 122
  · rw [decide_eq_true h.1, decide_eq_true h.2]
    refine decide_eq_true ?_
    simp only [List.mem_cons, List.not_mem_nil, or_false]
    omega
  · have : (decide (97 ≤ c) && decide (c ≤ 122)) = false := by
      rw [Bool.and_eq_false_iff, decide_eq_false_iff_not, decide_eq_false_iff_not]; omega
    rw [this]
    refine decide_eq_false ?_
    simp only [List.mem_cons, List.not_mem_nil, or_false]
    omega
theorem firstBad_some {ds : List PyData} {m : Int} {i : Nat} (hi : i < ds.length) (hb : badAt ds m i = true) (hp : ∀ j, j < i → badAt ds m j = false) : firstBad ds m = some i := by
  unfold firstBad
  rw [List.find?_range_eq_some]
  exact ⟨hb, List.mem_range.mpr hi, fun j hj => by rw [hp j hj]; rfl⟩
theorem firstBad_none {ds : List PyData} {m : Int} (hp : ∀ j, j < ds.length → badAt ds m j = false) : firstBad ds m = none := by
  unfold firstBad
  rw [List.find?_eq_none]
  intro j hj
  rw [hp j (List.mem_range.mp hj)]
  exact Bool.false_ne_true
theorem pairD_run {p : Str × Int} (h1 : isName p.1 = true) (h2 : 1 ≤ p.2) : runD (pairD p) = true := by
  show (isName p.1 && decide (1 ≤ p.2)) = true
  rw [h1, decide_eq_true h2]; rfl
theorem bag_good {ps : Bag} (h : BagOk ps) {m : Int} (hm : (ps.length : Int) ≤ m) : firstBad (ps.map pairD) m = none := by
  refine firstBad_none fun i hi => ?_
  rw [List.length_map] at hi
  have e : (ps.map pairD).getD i .none = pairD ps[i] := by simp [List.getD, hi]
  unfold badAt
  rw [e, decide_eq_false (by omega), pairD_run (h.nam _ (List.getElem_mem hi)) (h.pos _ (List.getElem_mem hi))]
  by_cases h0 : 0 < i
  · have e2 : (ps.map pairD).getD (i - 1) .none = pairD (ps[i - 1]'(by omega)) := by simp [List.getD, show i - 1 < ps.length by omega]
    rw [e2, decide_eq_true h0]
    have q := List.pairwise_iff_getElem.mp h.asc (i - 1) i (by omega) hi (by omega)
    have q2 : ltS (nmD (pairD (ps[i - 1]'(by omega)))) (nmD (pairD ps[i])) := q
    rw [decide_eq_true q2]; rfl
  · rw [decide_eq_false h0]; rfl
theorem szD_bag {ps : Bag} (h : ∀ p ∈ ps, p.1.length ≤ 100000) : szDs (ps.map pairD) = true := by
  induction ps with
  | nil => rfl
  | cons p r ih =>
    have h1 := h p List.mem_cons_self
    show (szD (pairD p) && szDs (r.map pairD)) = true
    rw [ih fun q hq => h q (List.mem_cons_of_mem _ hq)]
    simp [szD, szDs, pairD, h1]
theorem isName_len {x : Str} (h : isName x = true) : 0 < x.length ∧ x.length < 9 := by
  unfold isName at h
  have h1 := Bool.and_eq_true_iff.mp h
  have h2 := Bool.and_eq_true_iff.mp h1.2
  exact ⟨of_decide_eq_true h1.1, of_decide_eq_true h2.1⟩
theorem isName_let {x : Str} (h : isName x = true) : x.cps.toList.all isLet = true := by
  unfold isName at h
  exact (Bool.and_eq_true_iff.mp (Bool.and_eq_true_iff.mp h).2).2
theorem BagOk.sz {ps : Bag} (h : BagOk ps) : szDs (ps.map pairD) = true := szD_bag fun p hp => by have := (isName_len (h.nam p hp)).2; omega
section
variable {K : PySem.W.Frag} {H : Hp}
theorem pair_inv {v : V} {p : Str × Int} (h : Dp K H v (pairD p)) : ∃ a, v = .ref a ∧ SqT K H a [.str p.1, .int p.2] := by
  obtain ⟨a, xs, rfl, hs, hd⟩ := dp_tup_inv h
  refine ⟨a, rfl, ?_⟩
  cases hd with
  | cons h1 r =>
    cases r with
    | cons h2 r2 =>
      cases r2
      rw [dp_str_inv h1, dp_int_inv h2] at hs
      exact hs
theorem pair_mk {a : Addr} {n : Str} {c : Int} (h : SqT K H a [.str n, .int c]) : Dp K H (.ref a) (pairD (n, c)) := .tup h (.cons (.str n) (.cons (.int c) .nil))
theorem bag_inv {v : V} {ps : Bag} (h : Dp K H v (bagD ps)) : ∃ a xs, v = .ref a ∧ SqT K H a xs ∧ DpAll K H xs (ps.map pairD) ∧ xs.length = ps.length := by
  obtain ⟨a, xs, rfl, hs, hd⟩ := dp_tup_inv h
  exact ⟨a, xs, rfl, hs, hd, by rw [dps_len hd, List.length_map]⟩
theorem bag_get {xs : List V} {ps : Bag} {i : Nat} {x : V} (hd : DpAll K H xs (ps.map pairD)) (e : xs[i]? = some x) : ∃ p b, ps[i]? = some p ∧ x = .ref b ∧ SqT K H b [.str p.1, .int p.2] := by
  obtain ⟨d, h1, h2⟩ := dps_get hd e
  rw [List.getElem?_map] at h1
  cases q : ps[i]? with
  | none => rw [q] at h1; cases h1
  | some p =>
    rw [q] at h1
    have e2 : pairD p = d := Option.some.inj h1
    subst e2
    obtain ⟨b, e3, h3⟩ := pair_inv h2
    exact ⟨p, b, rfl, e3, h3⟩
end
end TP

namespace TP
open PySem PySem.Spec PyProof.Rows L2
theorem str_ext {x y : Str} (h : x.cps.toList = y.cps.toList) : x = y := by
  cases x; cases y
  congr 1
  exact Array.ext' h
theorem app_list (x y : Str) : (x ++ y).cps.toList = x.cps.toList ++ y.cps.toList := by
  show (x.cps ++ y.cps).toList = _
  simp
theorem len_list (x : Str) : x.length = x.cps.toList.length := by show x.cps.size = _; simp
theorem join0_list : ∀ ys : List Str, (Str.join (Str.ofString "") ys).cps.toList = (ys.map fun y => y.cps.toList).flatten
  | [] => rfl
  | [x] => by simp [Str.join]
  | x :: y :: r => by
    have ih := join0_list (y :: r)
    show (x ++ Str.ofString "" ++ Str.join (Str.ofString "") (y :: r)).cps.toList = _
    rw [app_list, app_list, ih]
    have e : (Str.ofString "").cps.toList = [] := by decide +kernel
    rw [e]
    simp
theorem txt_join_eq (s : Str) (ys : List Str) : Txt.join s ys = Str.join s ys := TL.join_eq s ys
theorem isName_of {x : Str} (h0 : 0 < x.length) (h1 : x.length < 9) (h2 : lets x) : isName x = true := by
  unfold isName
  rw [decide_eq_true h0, decide_eq_true h1, List.all_eq_true.mpr h2]; rfl
theorem wordA_all : ∀ b, b < 15 → ((List.range 15).map (wordA b)).Nodup ∧ ∀ w ∈ (List.range 15).map (wordA b), isName w = true := by decide +kernel
theorem wordB_all : ∀ b, b < 15 → ((List.range 15).map (wordB b)).Nodup ∧ ∀ w ∈ (List.range 15).map (wordB b), isName w = true := by decide +kernel
theorem range_prefix {α : Type} {f : Nat → α} {n m : Nat} (h : n ≤ m) : (List.range n).map f = ((List.range m).map f).take n := by
  rw [← List.map_take, List.take_range, Nat.min_eq_left h]
theorem words_of {f : Nat → Str} {n : Nat} (hn : n ≤ 15) (h : ((List.range 15).map f).Nodup ∧ ∀ w ∈ (List.range 15).map f, isName w = true) : ((List.range n).map f).Nodup ∧ ∀ w ∈ (List.range n).map f, isName w = true := by
  rw [range_prefix hn]
  exact ⟨h.1.sublist (List.take_sublist _ _), fun w hw => h.2 w (List.mem_of_mem_take hw)⟩
theorem wordC_all {b : Nat} {l r : List Nat} (hb : b < 15) (hl : ∀ c ∈ l, isLet c = true) (hr : ∀ c ∈ r, isLet c = true) (hn : l.length + r.length ≤ 7) : ((List.range 15).map (wordC b l r)).Nodup ∧ ∀ w ∈ (List.range 15).map (wordC b l r), isName w = true := by
  constructor
  · unfold List.Nodup
    rw [List.pairwise_map]
    refine List.Pairwise.imp_of_mem ?_ List.nodup_range
    intro i j hi hj hne e
    apply hne
    have hi' := List.mem_range.mp hi
    have hj' := List.mem_range.mp hj
    have e2 : (l ++ (97 + (b + 5 * i) % 26) :: r) = (l ++ (97 + (b + 5 * j) % 26) :: r) := by
      have := congrArg (fun z : Str => z.cps.toList) e
      simpa [wordC] using this
    have e3 := List.append_cancel_left e2
    injection e3 with e4 _
    omega
  · intro w hw
    obtain ⟨i, _, rfl⟩ := List.mem_map.mp hw
    have e : (wordC b l r i).cps.toList = l ++ (97 + (b + 5 * i) % 26) :: r := by simp [wordC]
    refine isName_of ?_ ?_ fun c hc => ?_
    · rw [len_list, e]; simp; omega
    · rw [len_list, e]; simp; omega
    · rw [e] at hc
      rcases List.mem_append.mp hc with h | h
      · exact hl c h
      · rcases List.mem_cons.mp h with h | h
        · subst h
          unfold isLet
          rw [decide_eq_true (by omega), decide_eq_true (by omega)]; rfl
        · exact hr c h
theorem words_mk {f : Nat → Str} {n : Nat} (hn : n ≤ 15) (h : ((List.range 15).map f).Nodup ∧ ∀ w ∈ (List.range 15).map f, isName w = true) : WordsOk ((List.range n).map f) n :=
  ⟨by simp, (words_of hn h).1, (words_of hn h).2⟩
theorem at_of' {α : Type} {xs : List α} {z : Int} {j : Nat} {v : α} (e : z = (j : Int)) (h : xs[j]? = some v) : atI xs z = some v := by rw [e]; exact atI_nat h
theorem letters_at {i : Int} (h0 : 0 ≤ i) (h1 : i < 26) : atI letters.cps.toList i = some (97 + i.toNat) := by
  have all : ∀ j : Nat, j < 26 → letters.cps.toList[j]? = some (97 + j) := by decide +kernel
  exact at_of' (j := i.toNat) (by omega) (all i.toNat (by omega))
theorem tri : ∀ a b : List Nat, a < b ∨ a = b ∨ b < a
  | [], [] => .inr (.inl rfl)
  | [], _ :: _ => .inl (List.nil_lt_cons _ _)
  | _ :: _, [] => .inr (.inr (List.nil_lt_cons _ _))
  | a :: r, b :: t => by
    rcases Nat.lt_trichotomy a b with h | h | h
    · exact .inl (List.cons_lt_cons_iff.mpr (.inl h))
    · subst h
      rcases tri r t with h | h | h
      · exact .inl (List.cons_lt_cons_iff.mpr (.inr ⟨rfl, h⟩))
      · exact .inr (.inl (by rw [h]))
      · exact .inr (.inr (List.cons_lt_cons_iff.mpr (.inr ⟨rfl, h⟩)))
    · exact .inr (.inr (List.cons_lt_cons_iff.mpr (.inl h)))
theorem ltS_trans {a b c : Str} (h : ltS a b) (h2 : ltS b c) : ltS a c := List.lt_trans h h2
theorem ltS_tri (a b : Str) : ltS a b ∨ a = b ∨ ltS b a := by
  rcases tri a.cps.toList b.cps.toList with h | h | h
  · exact .inl h
  · exact .inr (.inl (str_ext h))
  · exact .inr (.inr h)
theorem rising_asc : ∀ (l : List Str) (p : Str), risingS p l = true → (p :: l).Nodup → (p :: l).Pairwise ltS
  | [], p, _, _ => List.pairwise_singleton _ _
  | x :: r, p, h, nd => by
    have h' := Bool.and_eq_true_iff.mp (show (!ltCps x.cps.toList p.cps.toList && risingS x r) = true from h)
    have nd' := List.nodup_cons.mp nd
    have ih := rising_asc r x h'.2 nd'.2
    have nlt : ¬ ltS x p := fun q => by
      have e : ltCps x.cps.toList p.cps.toList = true := by rw [ltCps_eq]; exact decide_eq_true q
      rw [e] at h'
      exact Bool.false_ne_true h'.1
    have px : ltS p x := by
      rcases ltS_tri p x with q | q | q
      · exact q
      · exact absurd (by rw [q]; exact List.mem_cons_self) nd'.1
      · exact absurd q nlt
    rw [List.pairwise_cons]
    refine ⟨fun z hz => ?_, ih⟩
    rcases List.mem_cons.mp hz with e | hz
    · rw [e]; exact px
    · exact ltS_trans px ((List.pairwise_cons.mp ih).1 z hz)
theorem sorted_asc : ∀ {ys : List Str}, sortedS ys = true → ys.Nodup → ys.Pairwise ltS
  | [], _, _ => .nil
  | x :: r, h, nd => rising_asc r x h nd
theorem asc_take {ys : List Str} (asc : ys.Pairwise ltS) {i : Nat} (hi : i < ys.length) {z : Str} (hz : z ∈ ys.take i) : ltS z ys[i] := by
  obtain ⟨j, hj, e⟩ := List.mem_iff_getElem.mp hz
  rw [List.getElem_take] at e
  rw [List.length_take] at hj
  subst e
  exact List.pairwise_iff_getElem.mp asc j i (by omega) hi (by omega)
end TP

namespace TP
open PySem PySem.Spec PyProof.Rows L2
section
variable {X : Cx} (K : PySem.W.Frag)
theorem k_ixL (h : X.K = K := by rfl) : IxR X (rIxL K) := by subst h; exact ix_list
theorem k_ixT (h : X.K = K := by rfl) : IxR X (rIxT K) := by subst h; exact ix_tup
theorem k_slL (h : X.K = K := by rfl) : SlR X (rSlL K) := by subst h; exact sl_list
theorem k_neD (hu : X.A.units + 64 < cLine) (h : X.K = K := by rfl) : OpR X (compareOp .NotEq) (rNeD K) := by subst h; exact op_neD hu
theorem k_len (h : X.K = K := by rfl) : CallR X (.builtin "len") (rLenV K) := by subst h; exact c_len
theorem k_tuple (h : X.K = K := by rfl) : CallR X (.type "tuple") (rTupS K) := by subst h; exact c_tuple
theorem k_all (hc : X.calm = true) (h : X.K = K := by rfl) : CallR X (.builtin "all") (rAll K) := by subst h; exact cr_all hc
theorem k_any (hc : X.calm = true) (h : X.K = K := by rfl) : CallR X (.builtin "any") (rAny K) := by subst h; exact cr_any hc
theorem k_sortedS (h : X.K = K := by rfl) : CallR X (.builtin "sorted") (rSortedS K) := by subst h; exact cr_sortedS
theorem k_repr (hg : X.A.guards = some []) (hu : X.A.units + 64 < cLine) (h : X.K = K := by rfl) : CallR X (.builtin "repr") (rRepr K) := by subst h; exact call_repr hg hu
theorem k_isi (h : X.K = K := by rfl) : CallR X (.builtin "isinstance") (rIsi K) := by subst h; exact call_isi
variable {o e a b : Expr} {to te ta tb : TE} {apos cpos pos p tpos : Pos} {es : List Expr} {t : TA} {tg : Expr} {rest : List Expr}
theorem k_join (ho : PE X o to) (he : PE X e te) (h : X.K = K := by rfl) (hs : starEach [e] X.env = [(false, eval e X.env)] := by rfl) (hbase : attributeBase o "join" X.env (eval o X.env) = eval o X.env := by rfl) (hline : (apos.endLine == pos.line) = true := by rfl) :
    PE X (.Call (.Attribute o "join" apos) [e] [] pos) (tM1 (rJoin K) to te) := by subst h; exact pe_join ho he hs hbase hline
theorem k_bm {T id : String} {name : Str} {r : V → List V → Hp → VK → Prop} (pa : PlainAttrs T) (slot : Slot T name id) (hty : typeOf (.builtin id) = pure (.type "method_descriptor")) (hm : MtR X id r) (ho : PE X o to) (ha : PA X (e :: es) t) (h : X.K = K := by rfl)
    (hbase : attributeBase o name X.env (eval o X.env) = eval o X.env := by rfl)
    (hfew : ((backTo cpos (starEach (e :: es) X.env)).all (fun x => !x.1) && (backToKw cpos (keywordEach [] X.env)).all (fun x => x.1.isSome) && decide ((e :: es).length + ([] : List Keyword).length + (if ([] : List Keyword).isEmpty then 0 else 1) < 30)) = true := by rfl)
    (hline : (apos.endLine == cpos.line) = true := by rfl) (hs : starEach (e :: es) X.env = (false, eval e X.env) :: starEach es X.env := by rfl) (hplain : (backTo cpos (starEach es X.env)).any (·.1) = false := by rfl) :
    PE X (.Call (.Attribute o name apos) (e :: es) [] cpos) (tBM K T r to t) := by subst h; exact pe_bm pa slot hty hm ho ha hbase hfew hline hs hplain
theorem k_fld {f : Str} (he : PE X e ta) (hb : attributeBase e f X.env (eval e X.env) = eval e X.env) (h : X.K = K := by rfl) : PE X (.Attribute e f pos) (tFld K ta f) := by subst h; exact pe_fld he hb
theorem k_truth (ha : PE X a ta) (he : ∀ whole, isTrue a X.env whole = (do let v ← whole; standAt a.pos; holding [v] (truthy v))) (h : X.K = K := by rfl) : PT X a (fun σ H Q => ta σ H fun x H' => ∃ k, TruV K x H' k ∧ Q k H') := by subst h; exact pt_truth ha he
theorem k_orT (ha : PE X a ta) (hb : PE X (.BoolOp .Or (b :: rest) pos) tb) (h : X.K = K := by rfl) : PE X (.BoolOp .Or (a :: b :: rest) pos) (tOrT K ta tb) := by subst h; exact pe_orT ha hb
theorem k_gtup {k n : Nat} {t : TGs} (hc : X.calm = true) (hg : PGs X es t) (h : X.K = K := by rfl) (hn : (assignEach es X.env).length = n := by rfl) (hst : (assignEach es X.env).findIdx? (·.1) = none := by rfl) : PG X (.Tuple es k pos) (gTup K n t) := by subst h; exact pg_tup hc hg hn hst
theorem k_iList (hl : PE X e te) (h : X.K = K := by rfl) : PI X tg e (iList K te) := by subst h; exact pi_list hl
theorem k_iTup (hl : PE X e te) (h : X.K = K := by rfl) : PI X tg e (iTup K te) := by subst h; exact pi_tup hl
theorem k_iEnumT {elts : List Expr} {kk : Nat} (hg : Gl X "enumerate") (hm : X.mg "enumerate" = none) (ha : PA X [e] t) (h : X.K = K := by rfl) (hs : starEach [e] X.env = [(false, eval e X.env)] := by rfl) :
    PI X (.Tuple elts kk tpos) (.Call (.Name "enumerate" p) [e] [] pos) (iEnumT K t) := by subst h; exact pi_enumT hg hm ha hs
end
section
variable {J : It} {n : Nat} {G : Hp → Prop} {Y : Nat → Hp → V → Hp → Prop} {g : TG} {tt : TT} {te : TE} {vs : List Nat} {σ : L2.St} {H1 : Hp} {D : Addr} {Q : VK} {α : Type}
end
section
variable {J : It} {n : Nat} {G : Hp → Prop} {Y : Nat → Hp → V → Hp → Prop} {g : TG} {te : TE} {vs : List Nat} {σ : L2.St} {H1 : Hp} {D : Addr} {Q : VK} {K : PySem.W.Frag}
end
theorem log2_le (i : Int) (h0 : 0 ≤ i) (h1 : i ≤ 10 ^ 100) : i.natAbs.log2 < 1920 := by
  refine Nat.lt_of_lt_of_le (PySem.Flt.log2_lt_of (by decide : 0 < 400) ?_) (by decide)
  have h2 : i.natAbs ≤ 10 ^ 100 := by omega
  exact Nat.lt_of_le_of_lt h2 (by decide)
theorem okD_name {x : Str} (h : isName x = true) : okD (.str x) = true := by
  show (x.cps.toList.all fun c => decide (c < 16 ^ 8)) = true
  rw [List.all_eq_true]
  intro c hc
  have := List.all_eq_true.mp (isName_let h) c hc
  unfold isLet at this
  have h2 := of_decide_eq_true (Bool.and_eq_true_iff.mp this).2
  exact decide_eq_true (by omega)
theorem bag_shows_aux : ∀ ps : Bag, BagS ps → okDs (ps.map pairD) = true ∧ rbs (ps.map pairD) ≤ 2100 * ps.length ∧ PyData.depthAll (ps.map pairD) ≤ 1
  | [], _ => by simp [okDs, rbs, PyData.depthAll]
  | p :: r, h => by
    obtain ⟨i1, i2, i3⟩ := bag_shows_aux r fun q hq => h q (List.mem_cons_of_mem _ hq)
    obtain ⟨h1, h2, h3⟩ := h p List.mem_cons_self
    have hl := (isName_len h1).2
    have e1 : okD (pairD p) = true := by
      show (okD (.str p.1) && (okD (.int p.2) && true)) = true
      rw [okD_name h1, show okD (.int p.2) = true from decide_eq_true (log2_le _ h2 h3)]; rfl
    have e2 : rb (pairD p) = (10 * p.1.length + 2 + 2 + (1921 + 2 + 0)) + 3 := rfl
    have e3 : (pairD p).depth = 1 := by simp [pairD, PyData.depth, PyData.depthAll]
    refine ⟨?_, ?_, ?_⟩
    · show (okD (pairD p) && okDs (r.map pairD)) = true
      rw [e1, i1]; rfl
    · show rb (pairD p) + 2 + rbs (r.map pairD) ≤ _
      rw [e2, List.length_cons]; omega
    · show max (pairD p).depth (PyData.depthAll (r.map pairD)) ≤ 1
      rw [e3]; omega
theorem Has.fixed {P : Program} {w : World} {K : PySem.W.Frag} {mg : Str → Option Value} {base : Heap} {CX : CXT} {k : Nat} {x : Str} {st : Stmt} {ps : List Str} {sp : Sp} (h : Has P w K mg base CX k x st ps sp) {fd : FuncData}
    (F0 : FunD K x x (defArgs st) (defBody st) (defScope st) [] [] (He.ga K x) fd) : FnG P w K mg base CX k (He.ga K x) fd ps sp := by
  obtain ⟨fd', F1, G⟩ := h.ex
  have e : fd' = fd := by
    obtain ⟨oc, od, dV, kV, doc, pm, an, cdv, ct, osl, e1, l1, _⟩ := F1.ex
    obtain ⟨oc2, od2, dV2, kV2, doc2, pm2, an2, cdv2, ct2, osl2, e2, l2, _⟩ := F0.ex
    rw [l1] at l2
    injection l2 with l3
    injection l3 with _ _ l4 _
    injection l4
  rw [← e]; exact G
end TP

namespace TP
open PySem PySem.Spec PyProof.Rows L2
theorem vals_pick {xs : List V} {us : List Value} (r : Vals xs us) : ∀ js : List Nat, Vals (js.filterMap fun k => xs[k]?) (js.filterMap fun k => us[k]?)
  | [] => .nil
  | j :: js => by
    rw [List.filterMap_cons, List.filterMap_cons]
    cases e : xs[j]? with
    | none =>
      rw [r.none_of e]
      exact vals_pick r js
    | some x =>
      obtain ⟨u, e2, ru⟩ := r.get e
      rw [e2]
      exact .cons ru (vals_pick r js)
section
variable {prog : Program} {w : World} {A : Around} {E : Value → Shared → Prop} {s : Shared}
end
section
variable {X : Cx} {e : Expr} {te : TE} {k : Nat} {p1 p2 p3 pos : Pos} (K : PySem.W.Frag)
end
section
variable {J : It} {n : Nat} {G : Hp → Prop} {Y : Nat → Hp → V → Hp → Prop} {g : TG} {tt : TT} {te : TE} {vs : List Nat} {σ : L2.St} {H1 : Hp} {D : Addr} {Q : VK} {α : Type}
end
theorem OrdOk.sz {ps : Bag} (h : OrdOk ps) : szDs (ps.map pairD) = true := szD_bag fun p hp => by have := (isName_len (h.nam p hp)).2; omega
end TP

namespace TP
open PySem PySem.Spec PyProof.Rows L2
theorem k_tru {X : Cx} {a : Expr} {ta : TE} (K : PySem.W.Frag) (ha : PE X a ta) (he : ∀ whole, isTrue a X.env whole = (do let v ← whole; standAt a.pos; holding [v] (truthy v))) (h : X.K = K := by rfl) : PT X a (tTru K ta) := k_truth K ha he h
theorem eqv_self : ∀ d : PyData, d.canLay0 = true → PyData.eqv d d = true := PySem.SeqAt.eqv_refl
section
variable {K : PySem.W.Frag} {σ : L2.St} {H : Hp} {Q : VK} {te td ty : TE} {QB : Bool → Hp → Prop} {a : Addr} {xs : List V} {v w : V}
theorem w_tru (h : te σ H fun x H1 => TruC K x H1 fun b => QB b H1) : tTru K te σ H QB := h
theorem w_truI {k : Bool → Prop} {i : Int} (h : k (i != 0)) : TruC K (.int i) H k := ⟨_, rfl, h⟩
theorem w_truB {k : Bool → Prop} {b : Bool} (h : k b) : TruC K (.bl b) H k := ⟨_, rfl, h⟩
theorem w_dget (h : td σ H fun x H1 => ty σ H1 fun y H2 => DGetC x y H2 Q) : tDGet td ty σ H Q := h
theorem w_neD {d e : PyData} (h1 : Dp K H v d) (h2 : Dp K H w e) (s1 : SeqAt.shaped d = true) (s2 : SeqAt.shaped e = true) (h : Q (.bl (!PyData.eqv d e)) H) : rNeD K v w H Q := ⟨d, e, h1, h2, s1, s2, h⟩
end
theorem AllSame.flat {K : PySem.W.Frag} {H : Hp} : ∀ {xs : List V}, xs.all flatB = true → AllSame K H xs xs
  | [], _ => .nil
  | x :: r, h => by
    have h' := Bool.and_eq_true_iff.mp (show (flatB x && r.all flatB) = true from h)
    exact .cons (.inl ⟨rfl, h'.1⟩) (AllSame.flat h'.2)
section
variable {X : Cx} {pins : List (Addr × Obj)} {σ : L2.St} {H : Hp} {s : Shared}
theorem sameV_at (I : Inv X pins σ H s) (hu : X.A.units + 66 < cLine) {x y : V} {v u : Value} (h : SameV X.K H x y) (rx : RelV x v) (ry : RelV y u) : SeqAt.EqAt X.A.in1 s v u true := by
  rcases h with ⟨rfl, f⟩ | ⟨d, h1, h2, sh⟩
  · exact eqAt_same rx ry f
  · obtain ⟨as, r1⟩ := Dp.reads I d x v h1 rx
    obtain ⟨bs, r2⟩ := Dp.reads I d y u h2 ry
    have c := SeqAt.canLay_of_shaped sh
    have := SeqAt.eqAt_reads d d X.A.in1 s v u as bs r1 r2 c c (by have := SeqAt.depth_of_shaped sh; show X.A.units + 1 + min d.depth d.depth < cLine; omega)
    rwa [eqv_self d c] at this
theorem sameV_items (I : Inv X pins σ H s) (hu : X.A.units + 66 < cLine) : ∀ {xs ys : List V}, AllSame X.K H xs ys → ∀ {us ws : List Value}, Vals xs us → Vals ys ws → ∀ j (h1 : j < us.length) (h2 : j < ws.length), SeqAt.EqAt X.A.in1 s us[j] ws[j] true
  | _, _, .nil, us, ws, r1, r2, j, h1, h2 => by cases r1; exact absurd h1 (Nat.not_lt_zero j)
  | _, _, .cons h t, us, ws, r1, r2, j, h1, h2 => by
    cases r1 with
    | cons a1 b1 =>
      cases r2 with
      | cons a2 b2 =>
        cases j with
        | zero => exact sameV_at I hu h a1 a2
        | succ j => exact sameV_items I hu t b1 b2 j (Nat.lt_of_succ_lt_succ h1) (Nat.lt_of_succ_lt_succ h2)
theorem op_neL (hu : X.A.units + 66 < cLine) : OpR X (compareOp .NotEq) (rNeL X.K) := by
  intro pins s σ H x y v u Q I rx ry h
  obtain ⟨a, b, xs, ys, rfl, rfl, ha, hb, hp, q⟩ := h
  cases (show v = Value.ref a from rx)
  cases (show u = Value.ref b from ry)
  obtain ⟨us, r1, p1, _⟩ := I.list ha
  obtain ⟨ws, r2, p2, _⟩ := I.list hb
  have hsz : us.toArray.size = ws.toArray.size := by rw [List.size_toArray, List.size_toArray, ← r1.length, ← r2.length]; exact hp.len
  refine SeqAt.RcNeAt.lists (e := fun _ => true) p1.isList p2.isList hsz (by omega) (fun j h1 h2 => ?_) X.prog X.w _ _ ?_
  · have k := sameV_items I hu hp r1 r2 j (by simpa using h1) (by simpa using h2)
    simpa using k
  · rw [show ((List.range us.toArray.size).all fun _ => true) = true from List.all_eq_true.mpr fun _ _ => rfl]
    exact ⟨.bl false, H, I, rfl, q⟩
theorem op_neE (hu : X.A.units + 66 < cLine) : OpR X (compareOp .NotEq) (rNeE X.K) := by
  intro pins s σ H x y v u Q I rx ry h
  obtain ⟨a, b, xs, e1, e2, ha, hb, q⟩ := h
  cases xs with
  | nil => exact op_neL hu pins s σ H x y v u Q I rx ry ⟨a, b, [], [], e1, e2, ha, hb, .nil, q⟩
  | cons z r =>
    subst e1 e2
    cases (show v = Value.ref a from rx)
    cases (show u = Value.ref b from ry)
    obtain ⟨us, r1, p1, _⟩ := I.list ha
    obtain ⟨ws, r2, p2, _⟩ := I.list hb
    refine SeqAt.RcNeAt.lists_lengths p1.isList p2.isList ?_ (by omega) X.prog X.w _ _ ⟨.bl true, H, I, rfl, q⟩
    rw [List.size_toArray, List.size_toArray, ← r1.length, ← r2.length]
    simp
theorem k_neE (K : PySem.W.Frag) (hu : X.A.units + 66 < cLine) (h : X.K = K := by rfl) : OpR X (compareOp .NotEq) (rNeE K) := by subst h; exact op_neE hu
theorem k_neL (K : PySem.W.Frag) (hu : X.A.units + 66 < cLine) (h : X.K = K := by rfl) : OpR X (compareOp .NotEq) (rNeL K) := by subst h; exact op_neL hu
end
theorem u66 {k : Nat} {A : Around} (r : Room k A) : A.units + 66 < cLine := by have := r.un; omega
section
variable {K : PySem.W.Frag} {H : Hp} {Q : VK} {a b : Addr} {xs ys : List V}
theorem w_neE (h1 : SqL K H a xs) (h2 : SqL K H b []) (h : Q (.bl (!xs.isEmpty)) H) : rNeE K (.ref a) (.ref b) H Q := ⟨a, b, xs, rfl, rfl, h1, h2, h⟩
theorem w_neL (h1 : SqL K H a xs) (h2 : SqL K H b ys) (hs : AllSame K H xs ys) (h : Q (.bl false) H) : rNeL K (.ref a) (.ref b) H Q := ⟨a, b, xs, ys, rfl, rfl, h1, h2, hs, h⟩
/-- lists of the same flat values -/
theorem w_neF (h1 : SqL K H a xs) (h2 : SqL K H b ys) (e : xs = ys) (hf : xs.all flatB = true) (h : Q (.bl false) H) : rNeL K (.ref a) (.ref b) H Q := w_neL h1 h2 (by rw [← e]; exact .flat hf) h
end
theorem sumC_pos : ∀ {a : Bag}, (∀ p ∈ a, 0 ≤ p.2) → 0 ≤ sumC a
  | [], _ => by simp [sumC]
  | p :: r, h => by
    rw [sumC_cons]
    have := h p List.mem_cons_self
    have := sumC_pos (a := r) fun q hq => h q (List.mem_cons_of_mem _ hq)
    omega
theorem mem_le : ∀ {a : Bag}, (∀ p ∈ a, 0 ≤ p.2) → ∀ p ∈ a, p.2 ≤ sumC a
  | q :: r, h, p, hp => by
    rw [sumC_cons]
    have h0 := h q List.mem_cons_self
    have hr := sumC_pos (a := r) fun q hq => h q (List.mem_cons_of_mem _ hq)
    rcases List.mem_cons.mp hp with rfl | hp
    · omega
    · have := mem_le (a := r) (fun q hq => h q (List.mem_cons_of_mem _ hq)) p hp
      omega
theorem w_stepT2 {K : PySem.W.Frag} {c : Int} {σ : L2.St} {H : Hp} {Q : VK} {te : TE} (h : te σ H fun x H1 => StepC K c x H1 Q) : tStepT K c te σ H Q := h
theorem cutV_take {xs : List V} {k : Nat} : cutV xs none (some (k : Int)) = xs.take k := by
  unfold cutV
  rw [HT.sIx_none, HT.sIx_nat]
  simp
end TP

namespace TP
open PySem PySem.Spec PyProof.Rows L2
theorem vals_app {a b : List V} {c d : List Value} (h1 : Vals a c) (h2 : Vals b d) : Vals (a ++ b) (c ++ d) := h1.append h2
theorem kbn {K : PySem.W.Frag} {x q : Str} {st : Stmt} {dvs : List V} {f : Addr} {fd : FuncData} {ps ks : List Str} {n : Nat} {js : List Nat} (F : FunD K x q (defArgs st) (defBody st) (defScope st) dvs [] f fd) (h : BindJ x q st ps dvs.length n ks js) :
    ∃ g, KBn K fd ps n ks g (fun vs zs => pick js (vs ++ zs ++ dvs)) := by
  rcases h with ⟨e, h⟩ | ⟨e, h⟩
  · have ed : dvs = [] := List.eq_nil_of_length_eq_zero e
    subst ed
    obtain ⟨kV, doc, pm, an, cdv, ct, rfl⟩ := FunD.noDef F
    refine ⟨fun us ws => pick js (us ++ ws), ⟨fun s us ws X l1 l2 => .of_eq (h kV doc pm an cdv ct us ws l1 l2), fun r1 r2 => ?_⟩⟩
    rw [List.append_nil]
    exact vals_pick (vals_app r1 r2) js
  · have hd : dvs ≠ [] := fun z => e (by rw [z]; rfl)
    obtain ⟨its, B⟩ := FunD.kbindsD F n ks (fun us its ws => pick js (us ++ ws ++ its)) hd (fun r1 r2 r3 => vals_pick (vals_app (vals_app r1 r3) r2) js) h
    exact ⟨_, B⟩
section
variable {P : Program} {w : World} {K : PySem.W.Frag} {mg : Str → Option Value} {base : Heap} {CX : CXT} {k j : Nat} {C m q : Str} {st : Stmt} {dvs : List V} {N ps : List Str} {sp sp' : Sp}
end
theorem clsB_ok {K : PySem.W.Frag} {h : Heap} {mg : Str → Option Value} {C : Str} {fs : List Str} (X : K.In h) (G : h.Ns mainGlobals mg) (c : clsB K C fs = true) : ClsF K mg C fs := by
  obtain ⟨c0, c⟩ := He.ba c
  obtain ⟨c1, c⟩ := He.ba c
  obtain ⟨c2, c⟩ := He.ba c
  obtain ⟨c3, c⟩ := He.ba c
  obtain ⟨c4, c⟩ := He.ba c
  obtain ⟨c5, c⟩ := He.ba c
  obtain ⟨c6, c⟩ := He.ba c
  obtain ⟨c7, c⟩ := He.ba c
  obtain ⟨c8, c⟩ := He.ba c
  obtain ⟨c9, c⟩ := He.ba c
  obtain ⟨c10, c11⟩ := He.ba c
  exact ⟨He.glo_ok X G c0, He.cls_ok c1, fun f hf => He.noat_ok (List.all_eq_true.mp c2 f hf), He.mkr_ok c3, He.eqO_ok c4, He.eqO_ok c5, of_decide_eq_true c6, of_decide_eq_true c7, of_decide_eq_true c8,
    fun T hT => of_decide_eq_true (List.all_eq_true.mp c9 T hT), fun T hT => of_decide_eq_true (List.all_eq_true.mp c10 T hT), He.eqO_ok c11⟩
theorem etupB_ok {K : PySem.W.Frag} {a : Addr} (h : etupB K a = true) (H : Hp) : SqT K H a [] := by
  unfold etupB at h
  cases q : K.lookup a with
  | none => rw [q] at h; cases h
  | some o =>
    obtain ⟨oc, od, dt, osl⟩ := o
    rw [q] at h
    cases oc with
    | type c =>
      cases dt with
      | seq its n =>
        obtain ⟨h1, h2⟩ := He.ba (show (decide (c = "tuple") && decide (its = #[])) = true from h)
        have e := of_decide_eq_true h2
        subst e
        exact .inr ⟨_, #[], n, q, congrArg Value.type (of_decide_eq_true h1), rfl, Nat.zero_le _, .nil⟩
      | _ => cases h
    | _ => cases dt <;> cases h
theorem ex_at {K : PySem.W.Frag} {ex : List (PySem.W.Frag → Bool)} (h : (ex.all fun e => e K) = true) (i : Nat) {e : PySem.W.Frag → Bool} (hi : ex[i]? = some e := by rfl) : e K = true := List.all_eq_true.mp h e (List.mem_of_getElem? hi)
theorem k_sfld {X : Cx} {o value : Expr} {ta tv : TE} {f : Str} {pos pos' : Pos} (K : PySem.W.Frag) (ha : PE X o ta) (hv : PE X value tv) (hs : swapsWith value (some (.Attribute o f pos')) pos.line X.env = pure false) (hK : X.K = K := by rfl) : PS X (.Assign [.Attribute o f pos'] value pos) (sFld K ta tv f) := by subst hK; exact ps_fld ha hv hs
section
variable {X : Cx} {CX : CXT} {k n : Nat} {f : Addr} {fd : FuncData} {C m q : Str} {st : Stmt} {dvs : List V} {ps ks : List Str} {js : List Nat} {sp : Sp} {E : XK} {p pos apos : Pos} {e o : Expr} {es : List Expr} {kws : List Keyword} {ta : TE} {t tk : TA} {fs : List Str} {g : List Value → List Value → List Value} {gV : List V → List V → List V}
theorem run_makeG {pins : List (Addr × Obj)} {σ : L2.St} {H : Hp} {s : Shared} {Q : VK} {us ws : List Value} {vs zs : List V} {C : Addr} (M : Mk X.K C f) (F : FnG X.prog X.w X.K X.mg X.base CX k f fd ps sp) (hr : Room (k + 1) X.A) (hg : X.A.guards = some []) (hb : KBn X.K fd ps (n + 1) ks g gV)
    (hx : Passes CX X E) (I : Inv X pins σ H s) (r : Vals vs us) (rz : Vals zs ws) (l1 : vs.length = n) (l2 : zs.length = ks.length)
    (h : ∀ x dx, H x = none → H dx = none → dx ≠ x → sp (gV (.ref x :: vs) zs) (upd (upd H dx (.own x)) x (.ins C dx [])) (fun v H2 => v = .non ∧ Q (.ref x) H2) E) :
    wpAny (model X.prog X.w) X.A (call (.ref C) us (ks.zip ws)) (EP X pins σ Q) X.xe s := by
  have hq := h (s.heap.objs.size + 1) s.heap.objs.size (I.hok.fresh (Nat.le_succ _)) (I.hok.fresh (Nat.le_refl _)) (Nat.ne_of_lt (Nat.lt_succ_self _))
  have I2 := Inv.made (C := C) I
  have r1 : Vals (V.ref (s.heap.objs.size + 1) :: vs) (Value.ref (s.heap.objs.size + 1) :: us) := .cons rfl r
  have r2 := hb.rel r1 rz
  have e1 : (Value.ref (s.heap.objs.size + 1) :: us).length = n + 1 := r1.length.symm.trans (congrArg Nat.succ l1)
  have e2 : ws.length = ks.length := rz.length.symm.trans l2
  refine wpAny_call (make_map (f := f) I.kIn M.makes M.init (beq_iff_eq.mp M.fn) (codeAny_mono (F.run _ X.stack _ _ ⟨Value.ref (s.heap.objs.size + 1) :: us, ks.zip ws⟩ (g (Value.ref (s.heap.objs.size + 1) :: us) ws) _ _ E (hr.make C us (ks.zip ws)) hg
    (I2.env0.make C us (ks.zip ws)) (hb.to _ (Value.ref (s.heap.objs.size + 1) :: us) ws I2.kIn e1 e2) r2 hq) fun r s' hq' => ?_))
  cases r with
  | error e => exact hx pins σ _ _ e s' I2 hq'
  | ok fl =>
    cases fl with
    | ret u =>
      obtain ⟨v, H', I3, rv, ev, q3⟩ := I2.after hq'
      subst ev
      exact ⟨rv, ⟨V.ref (s.heap.objs.size + 1), H', I3, rfl, q3⟩⟩
    | next => exact False.elim hq'
    | brk => exact False.elim hq'
    | cont => exact False.elim hq'
/-- C(e, ..) -/
theorem pe_mk (c : ClsF X.K X.mg C fs) (F : HasM X.prog X.w X.K X.mg X.base CX k C "__init__" q st dvs ps sp) (hb : BindJ "__init__" q st ps dvs.length (n + 1) [] js) (hr : Room (k + 1) X.A) (hg : X.A.guards = some []) (hgl : Gl X C) (hx : Passes CX X E)
    (ha : PA X (e :: es) t) (hdb : (C == ("__debug__" : Str)) = false := by decide) (he : starEach (e :: es) X.env = (false, eval e X.env) :: starEach es X.env := by rfl) (hpl : (backTo pos (starEach es X.env)).any (·.1) = false := by rfl) :
    PE X (.Call (.Name C p) (e :: es) [] pos) (tMkN (He.ga X.K C) sp n 0 js dvs E t tNil) := by
  obtain ⟨fd, FD, G⟩ := F.ex
  obtain ⟨g, B⟩ := kbn FD hb
  refine ⟨fun pins s σ H Q I h => ?_⟩
  refine wpAny_Call_Name_kw (ld_glob I hgl c.glo ?_ hdb)
  refine PySem.W.callWith_K (h₀ := X.base) I.ok.mod.kin c.mkr.kp (thn (ha.run pos pins s σ H _ I h) fun us s1 ⟨vs, H1, I1, r, l1, l2, q2⟩ => ⟨I1.kIn, ?_⟩) he hpl
  exact run_makeG (ks := []) (ws := []) (zs := []) c.mkr G hr hg B hx I1 r .nil l1 rfl q2
end
section
variable {K : PySem.W.Frag} {mg : Str → Option Value} {C f m : Str} {fs : List Str} {σ : L2.St} {H : Hp} {Q : VK} {ta tv : TE} {t tk : TA} {a dx : Addr} {fl : List (Str × V)} {v y : V} {De : Ends}
theorem w_fldN (h : ta σ H fun x H1 => FldC K f x H1 Q) : tFld K ta f σ H Q := h
theorem w_fldc (c : ClsF K mg C fs) (hf : f ∈ fs) (e : H a = some (.ins (He.ga K C) dx fl)) (l : fl.lookup f = some v) (h : Q v H) : FldC K f (.ref a) H Q := ⟨a, _, dx, fl, v, rfl, e, c.cls, c.na f hf, l, h⟩
theorem w_sfld (h : tv σ H fun y H1 => ta σ H1 fun x H2 => SetC K f x y H2 fun H3 => De.nx σ H3) : sFld K ta tv f De σ H := h
theorem w_setc (c : ClsF K mg C fs) (hf : f ∈ fs) {k : Hp → Prop} (e : H a = some (.ins (He.ga K C) dx fl)) (l : fl.length < 1000) (h : k (upd H a (.ins (He.ga K C) dx (putF f y fl)))) : SetC K f (.ref a) y H k := ⟨a, _, dx, fl, rfl, e, c.cls, c.na f hf, l, h⟩
theorem w_lenC {n k : Nat} {vs zs : List V} {P : Prop} (h1 : vs.length = n) (h2 : zs.length = k) (h : P) : LenC n k vs zs P := ⟨h1, h2, h⟩
theorem w_mtN {C : Addr} {sp : Sp} {n k : Nat} {js : List Nat} {dvs : List V} {E : XK} (h : ta σ H fun x H1 => MtC C m x H1 (t σ H1 fun vs H2 => tk σ H2 fun zs H3 => LenC n k vs zs (sp (pick js ((x :: vs) ++ zs ++ dvs)) H3 Q E))) : tMtN C m sp n k js dvs E ta t tk σ H Q := h
theorem w_mkN {C : Addr} {sp : Sp} {n k : Nat} {js : List Nat} {dvs : List V} {E : XK} (h : t σ H fun vs H1 => tk σ H1 fun zs H2 => LenC n k vs zs (MkG C sp js dvs vs zs H2 Q E)) : tMkN C sp n k js dvs E t tk σ H Q := h
theorem w_isiT (c : ClsF K mg C fs) (e : H a = some (.ins (He.ga K C) dx fl)) (h : Q (.bl true) H) : rIsi K [.ref a, .ref (He.ga K C)] H Q := ⟨_, _, _, _, true, rfl, .own _, .base (.ins e c.cls c.i1 c.i2 c.i3 c.i4), c.kt, h⟩
theorem w_isiB (c : ClsF K mg C fs) {T : String} (hT : T ∈ ["int", "str", "list", "tuple", "dict", "bool"]) (e : H a = some (.ins (He.ga K C) dx fl)) (h : Q (.bl false) H) : rIsi K [.ref a, .ty T] H Q := ⟨_, _, _, _, false, rfl, .ty T, .base (.ins e c.cls c.i1 c.i2 c.i3 c.i4), c.kb T hT, h⟩
end
end TP

namespace TP
open PySem PySem.Spec PyProof.Rows L2
section
variable {K : PySem.W.Frag} {σ : L2.St} {H H1 : Hp} {Q : VK} {te td ty tx : TE} {a d : Addr} {kvs : List (Key × V)} {v : V} {R : It → Hp → Prop} {wi : TI} {g : TG} {tt : TT} {tk tv : TE} {vs : List Nat} {t : TE} {ts tb : TS} {De : Ends} {od : Obj} {D : Addr} {c : TT}
theorem w_din (h : ty σ H fun y H1 => td σ H1 fun x H2 => DInC x y H2 fun b => Q (.bl b) H2) : tDIn ty td σ H Q := by
  show ty σ H _
  exact h
theorem w_dnotin (h : ty σ H fun y H1 => td σ H1 fun x H2 => DInC x y H2 fun b => Q (.bl (!b)) H2) : tDNotIn ty td σ H Q := by
  show ty σ H _
  exact h
theorem w_iKeys (h : td σ H (OnK R)) : iKeys td σ H R := h
theorem w_dc (h : wi σ H fun J H1 => ∀ D, H1 D = none → DcOk J g tt tk tv vs σ H1 D Q) : tDc wi g tt tk tv vs σ H Q := h
/-- a statement, what holds behind it, and the rest -/
theorem w_cut {t u : TS} (Ex : L2.St → Hp → Prop) (hx : ∀ σ H, Ex σ H → u De σ H) (h : (∀ σ H, Ex σ H → u De σ H) → t { De with nx := u De } σ H) : tSeq t u De σ H := h hx
theorem w_whc {m : Nat} {Pv : Nat → L2.St → Hp → Prop} (h : tb { De with nx := fun σ' H' => ∃ m', m' < m ∧ Pv m' σ' H', ct := fun σ' H' => ∃ m', m' < m ∧ Pv m' σ' H', bk := De.nx } σ H) : WhC m Pv tb De σ H := ⟨_, fun _ _ h => h, h⟩
end
end TP

namespace TP
open PySem PySem.Spec PyProof.Rows L2
section
variable {K : PySem.W.Frag} {mg : Str → Option Value} {H H' : Hp} {Q : VK} {v : V} {c : Int} {ps : Bag}
theorem w_sumCap (cl : ClsF K mg "Summary" sumF) (h : SumO K H v c ps) (q : Q (.int c) H) : FldC K "capacity" v H Q := by
  obtain ⟨a, dx, b, rfl, h1, h2⟩ := h
  exact w_fldc cl (by decide) h1 rfl q
theorem w_sumCnt (cl : ClsF K mg "Summary" sumF) (h : SumO K H v c ps) (q : ∀ b, Dp K H b (bagD ps) → Q b H) : FldC K "counts" v H Q := by
  obtain ⟨a, dx, b, rfl, h1, h2⟩ := h
  exact w_fldc cl (by decide) h1 (by rfl) (q b h2)
theorem w_isSum (cl : ClsF K mg "Summary" sumF) (h : SumO K H v c ps) (q : Q (.bl true) H) : rIsi K [v, .ref (He.ga K "Summary")] H Q := by
  obtain ⟨a, dx, b, rfl, h1, h2⟩ := h
  exact w_isiT cl h1 q
end
end TP

namespace TP
open PySem PySem.Spec PyProof.Rows L2
section
variable {K : PySem.W.Frag} {σ : L2.St} {H : Hp} {Q : VK} {t tk : TA} {a : Addr}
theorem w_ckw {r : List V → List V → Hp → VK → Prop} (h : t σ H fun vs H1 => tk σ H1 fun zs H2 => r vs zs H2 Q) : tCKw r t tk σ H Q := h
end
theorem BagOk.sS {ps : Bag} (h : BagOk ps) (hs : sumC ps ≤ 10 ^ 100) : BagS ps := h.s fun p hp => Int.le_trans (mem_le (fun q hq => by have := h.pos q hq; omega) p hp) hs
end TP

namespace TP
open PySem PySem.Spec PyProof.Rows L2
end TP

namespace TP
open PySem PySem.Spec PyProof.Rows L2
end TP

namespace TP
open PySem PySem.Spec PyProof.Rows L2
section
variable {K : PySem.W.Frag} {H : Hp} {Q : VK} {a l : Addr} {x : Str} {ws : List Str}
theorem w_intB {k : Bool} (h : Q (.int (if k then 1 else 0)) H) : rInt1 [.bl k] H Q := .inr ⟨k, rfl, h⟩
end
theorem strOk_name {x : Str} (h : isName x = true) : PyData.strOk x = true := by
  unfold PyData.strOk
  rw [← Array.all_toList, List.all_eq_true]
  intro c hc
  have := List.all_eq_true.mp (isName_let h) c hc
  unfold isLet at this
  have h2 := of_decide_eq_true (Bool.and_eq_true_iff.mp this).2
  exact decide_eq_true (by omega)
end TP

namespace TP
open PySem PySem.Spec PyProof.Rows L2
section
variable {X : Cx} {CX : CXT} {k n : Nat} {f : Addr} {fd : FuncData} {C m q : Str} {st : Stmt} {ps : List Str} {js : List Nat} {sp : Sp} {E : XK} {fs : List Str} {g : List Value → List Value → List Value} {gV : List V → List V → List V}
end
section
variable {prog : Program} {w : World} {A : Around} {E : Value → Shared → Prop} {s : Shared} {K : PySem.W.Frag} {x C f : Addr} {ox : Obj} {od : Option Obj}
end
section
variable {X : Cx} {CX : CXT} {k n : Nat} {f : Addr} {fd : FuncData} {C m q : Str} {st : Stmt} {ps : List Str} {js : List Nat} {sp : Sp} {E : XK}
end
section
variable {X : Cx} {CX : CXT} {k n : Nat} {C q : Str} {st : Stmt} {ps : List Str} {js : List Nat} {sp : Sp} {E : XK} {fs : List Str} (K : PySem.W.Frag)
end
section
variable {K : PySem.W.Frag} {H : Hp} {Q : VK} {v w : V} {c d : Int} {ps qs : Bag} {sp : Sp} {js : List Nat} {E : XK}
end
end TP

namespace TP
open PySem PySem.Spec PyProof.Rows L2
end TP

namespace TP
open PySem PySem.Spec PyProof.Rows L2
theorem empty_app (x : Str) : Str.empty ++ x = x := str_ext (by rw [app_list]; rfl)
theorem app_len (a b : Str) : (a ++ b).length = a.length + b.length := PySem.Str.length_append a b
theorem intS_len {i : Int} (h0 : 0 ≤ i) (h1 : i ≤ 10 ^ 100) : (intS i).length ≤ 1921 := int_text_len_1921 (log2_le i h0 h1)
theorem ptS_len {p : Str × Int} (h : isName p.1 = true) (h0 : 0 ≤ p.2) (h1 : p.2 ≤ 10 ^ 100) : 1 ≤ (ptS p).length ∧ (ptS p).length ≤ 1931 := by
  unfold ptS
  rw [app_len, app_len]
  have := intS_len h0 h1
  have := (isName_len h).2
  have e : Str.length (":" : Str) = 1 := by decide +kernel
  omega
theorem parts_len {ps : Bag} (h : BagS ps) : ((ps.map ptS).map (·.length)).sum + (ps.map ptS).length * Str.length (" " : Str) ≤ 1932 * ps.length := by
  have e : Str.length (" " : Str) = 1 := by decide +kernel
  rw [e]
  induction ps with
  | nil => simp
  | cons p r ih =>
    obtain ⟨h1, h2, h3⟩ := h p List.mem_cons_self
    have h4 := (ptS_len h1 h2 h3).2
    have h5 := ih fun q hq => h q (List.mem_cons_of_mem _ hq)
    simp only [List.map_cons, List.sum_cons, List.length_cons] at h5 ⊢
    omega
theorem join_ne {ps : Bag} (h : BagS ps) (h0 : ps ≠ []) : 1 ≤ (Txt.join (" " : Str) (ps.map ptS)).length := by
  cases ps with
  | nil => exact absurd rfl h0
  | cons p r =>
    obtain ⟨h1, h2, h3⟩ := h p List.mem_cons_self
    have h4 := (ptS_len h1 h2 h3).1
    rw [txt_join_eq]
    cases r with
    | nil => exact h4
    | cons q r =>
      show 1 ≤ (ptS p ++ (" " : Str) ++ Str.join (" " : Str) (ptS q :: r.map ptS)).length
      rw [app_len, app_len]
      omega
theorem join_len {ps : Bag} (h : BagS ps) : (Txt.join (" " : Str) (ps.map ptS)).length ≤ 1932 * ps.length := by
  rw [txt_join_eq]
  exact Nat.le_trans (StrLaws.join_length_le _ _) (parts_len h)
theorem cText_len {ps : Bag} (h : BagS ps) : (cText ps).length ≤ 1932 * ps.length + 1 := by
  unfold cText
  split
  · have : Str.length ("-" : Str) = 1 := by decide +kernel
    omega
  · have := join_len h; omega
theorem k_joined {X : Cx} {v1 v2 : Expr} {rest : List Expr} {ts : List TE} {pos : Pos} (h : PJ X (v1 :: v2 :: rest) ts) : PE X (.JoinedStr (v1 :: v2 :: rest) pos) (tJoined ts) := pe_joined h
theorem c_strI {X : Cx} : CallR X (.type "str") rStrI := call_str_int
section
variable {K : PySem.W.Frag} {σ : L2.St} {H : Hp} {Q : VK} {QS : Str → Hp → Prop} {te ta tb : TE} {ts : List TE} {acc y : Str} {i : Int}
theorem w_neBl {a b : Bool} (h : Q (.bl (!decide (a = b))) H) : rNe (.bl a) (.bl b) H Q := by
  refine ⟨rfl, ?_⟩
  have e : decide (V.bl a = V.bl b) = decide (a = b) := by
    by_cases z : a = b
    · subst z; simp
    · rw [decide_eq_false z, decide_eq_false fun q => z (V.bl.inj q)]
  rw [e]; exact h
theorem w_eqBl {a b : Bool} (h : Q (.bl (decide (a = b))) H) : rEq (.bl a) (.bl b) H Q := by
  refine ⟨rfl, ?_⟩
  have e : decide (V.bl a = V.bl b) = decide (a = b) := by
    by_cases z : a = b
    · subst z; simp
    · rw [decide_eq_false z, decide_eq_false fun q => z (V.bl.inj q)]
  rw [e]; exact h
theorem w_fmt (h : te σ H fun x H1 => FmtC x H1 Q) : tFmt te σ H Q := h
theorem w_fmtS (hz : y.length ≤ 16777216) (h : Q (.str y) H) : FmtC (.str y) H Q := .inl ⟨y, rfl, by rw [sizeLine_eq]; exact hz, h⟩
theorem w_fmtI (h0 : 0 ≤ i) (h1 : i ≤ 10 ^ 100) (h : Q (.str (intS i)) H) : FmtC (.int i) H Q := .inr ⟨i, rfl, log2_le i h0 h1, h⟩
theorem w_joined (h : tJs ts Str.empty σ H fun out H1 => Q (.str out) H1) : tJoined ts σ H Q := h
theorem w_jcons (h : te σ H fun x H1 => JsC ts acc σ QS x H1) : tJs (te :: ts) acc σ H QS := h
theorem w_jnil (h : QS acc H) : tJs [] acc σ H QS := h
theorem w_jsc (hz : (acc ++ y).length ≤ 16777216) (h : tJs ts (acc ++ y) σ H QS) : JsC ts acc σ QS (.str y) H := ⟨y, rfl, by rw [sizeLine_eq]; exact hz, h⟩
theorem w_strI (h0 : 0 ≤ i) (h1 : i ≤ 10 ^ 100) (h : Q (.str (intS i)) H) : rStrI [.int i] H Q := ⟨i, rfl, log2_le i h0 h1, h⟩
theorem w_strS (h : Q (.str y) H) : rStrS [.str y] H Q := ⟨y, rfl, h⟩
theorem w_orT (h : ta σ H fun x H1 => OrC K tb σ Q x H1) : tOrT K ta tb σ H Q := h
theorem w_andT (h : ta σ H fun x H1 => AndC K tb σ Q x H1) : tAndT K ta tb σ H Q := h
theorem w_orcS (hz : y.length ≤ 16777216) (h1 : 1 ≤ y.length → Q (.str y) H) (h0 : y.length = 0 → tb σ H Q) : OrC K tb σ Q (.str y) H := by
  refine ⟨((y.length : Int) != 0), ⟨by rw [sizeLine_eq]; exact hz, rfl⟩, ?_⟩
  by_cases z : y.length = 0
  · have : ((y.length : Int) != 0) = false := by rw [z]; rfl
    rw [this]; exact w_iteF (h0 z)
  · have : ((y.length : Int) != 0) = true := bne_iff_ne.mpr (by omega)
    rw [this]; exact w_iteT (h1 (by omega))
end
theorem canLay_bag : ∀ {ps : Bag}, (∀ p ∈ ps, isName p.1 = true) → PyData.canLayAll0 (ps.map pairD) = true ∧ PyData.depthAll (ps.map pairD) ≤ 1
  | [], _ => ⟨rfl, by simp [PyData.depthAll]⟩
  | p :: r, h => by
    obtain ⟨i1, i2⟩ := canLay_bag fun q hq => h q (List.mem_cons_of_mem _ hq)
    constructor
    · show ((PyData.strOk p.1 && (true && true)) && PyData.canLayAll0 (r.map pairD)) = true
      rw [strOk_name (h p List.mem_cons_self), i1]; rfl
    · show max (max 0 (max 0 0) + 1) (PyData.depthAll (r.map pairD)) ≤ 1
      omega
theorem shaped_bag {ps : Bag} (h : ∀ p ∈ ps, isName p.1 = true) : SeqAt.shaped (bagD ps) = true := by
  obtain ⟨i1, i2⟩ := canLay_bag h
  show (PyData.canLayAll0 (ps.map pairD) && decide (PyData.depthAll (ps.map pairD) + 1 ≤ 64)) = true
  rw [i1, decide_eq_true (by omega)]; rfl
theorem str_beq (a b : Str) : (a == b) = decide (a = b) := by
  by_cases z : a = b
  · subst z; simp
  · rw [decide_eq_false z, beq_eq_false_iff_ne]; exact z
theorem eqv_bags : ∀ ps qs : Bag, PyData.eqvAll (ps.map pairD) (qs.map pairD) = decide (ps = qs)
  | [], [] => rfl
  | [], _ :: _ => rfl
  | _ :: _, [] => rfl
  | p :: r, q :: t => by
    have ih := eqv_bags r t
    show (((p.1 == q.1) && ((p.2 == q.2) && true)) && PyData.eqvAll (r.map pairD) (t.map pairD)) = _
    rw [ih, str_beq]
    have e2 : (p.2 == q.2) = decide (p.2 = q.2) := by
      by_cases z : p.2 = q.2
      · rw [z]; simp
      · rw [decide_eq_false z, beq_eq_false_iff_ne]; exact z
    rw [e2, Bool.and_true]
    by_cases z1 : p.1 = q.1
    · by_cases z2 : p.2 = q.2
      · by_cases z3 : r = t
        · rw [decide_eq_true z1, decide_eq_true z2, decide_eq_true z3, decide_eq_true (show p :: r = q :: t by rw [z3, Prod.ext z1 z2])]; rfl
        · rw [decide_eq_false z3, decide_eq_false (show ¬ p :: r = q :: t from fun e => z3 (List.cons.inj e).2)]; simp
      · rw [decide_eq_false z2, decide_eq_false (show ¬ p :: r = q :: t from fun e => z2 (by rw [(List.cons.inj e).1]))]; simp
    · rw [decide_eq_false z1, decide_eq_false (show ¬ p :: r = q :: t from fun e => z1 (by rw [(List.cons.inj e).1]))]; simp
theorem eqv_bag (ps qs : Bag) : PyData.eqv (bagD ps) (bagD qs) = decide (ps = qs) := eqv_bags ps qs
section
variable {K : PySem.W.Frag} {H : Hp} {Q : VK} {v w : V} {ps qs : Bag}
theorem w_neB (h1 : Dp K H v (bagD ps)) (h2 : Dp K H w (bagD qs)) (n1 : ∀ p ∈ ps, isName p.1 = true) (n2 : ∀ p ∈ qs, isName p.1 = true) (h : Q (.bl (!decide (ps = qs))) H) : rNeD K v w H Q :=
  w_neD h1 h2 (shaped_bag n1) (shaped_bag n2) (by rw [eqv_bag]; exact h)
end
end TP

namespace TP
open PySem PySem.Spec PyProof.Rows L2
end TP

namespace TP
open PySem PySem.Spec PyProof.Rows L2
section
variable {prog : Program} {w : World} {A : Around} {E : Value → Shared → Prop} {s : Shared}
end
section
variable {X : Cx}
theorem PairAt.inj {h : Heap} {v : Value} {y z : Str} {i j : Int} (a : PairAt h v y i) (b : PairAt h v z j) : y = z ∧ i = j := by
  obtain ⟨b, t, u, o, n1, rfl, h1, h2, h3⟩ := a
  obtain ⟨b', t', u', o', n1', eb, h1', h2', h3'⟩ := b
  cases eb
  rw [h1] at h1'
  cases h1'
  rw [h3] at h3'
  injection h3' with e1 e2
  have e3 := congrArg (fun z : Array Value => z.toList) e1
  simp at e3
  obtain ⟨⟨ey, _⟩, ei, _⟩ := e3
  exact ⟨ey, ei⟩
end
end TP

namespace TP
open PySem PySem.Spec PyProof.Rows L2
end TP

namespace TP
open PySem PySem.Spec PyProof.Rows L2
section
variable {prog : Program} {w : World} {A : Around} {E : Value → Shared → Prop} {s : Shared} {K : PySem.W.Frag} {x C f : Addr} {ox : Obj} {od : Option Obj} {b tb : Value}
end
section
variable {X : Cx} {CX : CXT} {k n : Nat} {C q : Str} {st : Stmt} {ps : List Str} {js : List Nat} {sp : Sp} {E : XK} {fs : List Str} (K : PySem.W.Frag)
end
section
variable {K : PySem.W.Frag} {mg : Str → Option Value} {H : Hp} {Q : VK} {v w : V} {c d : Int} {ps qs : Bag} {sp : Sp} {js : List Nat} {E : XK} {neg : Bool}
end
end TP

namespace TP
open PySem PySem.Spec PyProof.Rows L2
section
open TL
theorem repr_let : ∀ c, c < 123 → 97 ≤ c → PySem.Builtin.Str.reprChar 39 c = [c] := by decide +kernel
theorem fold_let : ∀ (l : List Nat) (acc : Array Nat), (∀ c ∈ l, isLet c = true) → (l.foldl (fun out c => out ++ (PySem.Builtin.Str.reprChar 39 c).toArray) acc).toList = acc.toList ++ l
  | [], acc, _ => by simp
  | c :: r, acc, h => by
    have hc := h c List.mem_cons_self
    have e : PySem.Builtin.Str.reprChar 39 c = [c] := by
      unfold isLet at hc
      simp at hc
      exact repr_let c (by omega) (by omega)
    rw [List.foldl_cons, e, fold_let r _ fun c hc => h c (List.mem_cons_of_mem _ hc)]
    simp
theorem no39 {x : Str} (h : isName x = true) : 39 ∉ tl x := fun hm => by
  have := List.all_eq_true.mp (isName_let h) 39 hm
  revert this; decide
theorem tl_repr {x : Str} (h : isName x = true) : tl (PySem.reprText x) = 39 :: (tl x ++ [39]) := by
  have hq : PySem.reprQuote x = 39 := by
    unfold PySem.reprQuote
    have : x.cps.contains 39 = false := by
      rw [Bool.eq_false_iff]
      intro z
      rw [Array.contains_iff] at z
      exact no39 h (Array.mem_toList_iff.mpr z)
    rw [this]; rfl
  unfold PySem.reprText
  rw [hq]
  show (Array.push (x.cps.foldl (fun out c => out ++ (PySem.Builtin.Str.reprChar 39 c).toArray) #[39]) 39).toList = _
  rw [Array.toList_push, ← Array.foldl_toList, fold_let _ _ fun c hc => List.all_eq_true.mp (isName_let h) c hc]
  simp
theorem tl_int {i : Int} (h : 0 ≤ i) : tl (Str.ofString (toString i)) = numL i.toNat := by
  obtain ⟨n, rfl⟩ := Int.eq_ofNat_of_zero_le h
  exact tl_num n
theorem tl_pair {p : Str × Int} (h1 : isName p.1 = true) (g1 : 0 ≤ p.2) : tl (pairD p).shown = encP p := by
  show tl (("(" : Str) ++ (PySem.reprText p.1 ++ (", " : Str) ++ Str.ofString (toString p.2)) ++ (")" : Str)) = _
  rw [tl_append, tl_append, tl_append, tl_append, tl_repr h1, tl_int g1]
  show [40] ++ (39 :: (tl p.1 ++ [39]) ++ [44, 32] ++ numL p.2.toNat) ++ [41] = _
  simp [encP]
theorem tl_join : ∀ (p : Str × Int) (r : Bag), (∀ q ∈ p :: r, isName q.1 = true ∧ 0 ≤ q.2) → tl (Str.join (", " : Str) (PyData.shownAll ((p :: r).map pairD))) = bodyP (p :: r)
  | p, [], h => by
    show tl (pairD p).shown = encP p ++ []
    rw [tl_pair (h p List.mem_cons_self).1 (h p List.mem_cons_self).2, List.append_nil]
  | p, q :: r, h => by
    have ih := tl_join q r fun x hx => h x (List.mem_cons_of_mem _ hx)
    show tl ((pairD p).shown ++ (", " : Str) ++ Str.join (", " : Str) (PyData.shownAll ((q :: r).map pairD))) = encP p ++ ([44, 32] ++ bodyP (q :: r))
    rw [tl_append, tl_append, ih, tl_pair (h p List.mem_cons_self).1 (h p List.mem_cons_self).2, List.append_assoc]
    rfl
end
section
variable {K : PySem.W.Frag} {H H' : Hp} {lo hi B : Int} {ms : List V}
end
end TP

namespace TP
open PySem PySem.Spec PyProof.Rows L2
section
variable {K : PySem.W.Frag} {mg : Str → Option Value} {H H' : Hp} {Q : VK} {v : V} {c : Int} {ps : Bag}
end
section
variable {K : PySem.W.Frag} {mg : Str → Option Value} {H H' : Hp} {Q : VK} {v w : V} {c d : Int} {ps qs : Bag} {sp : Sp} {js : List Nat} {E : XK} {neg : Bool}
end
theorem BagOk.init {ps : Bag} (h : BagOk ps) : BagOk ps.dropLast := by rw [List.dropLast_eq_take]; exact h.take _
end TP

namespace TP
open PySem PySem.Spec PyProof.Rows L2
section
variable {prog : Program} {w : World} {A : Around} {E : Value → Shared → Prop} {s : Shared}
end
section
variable {K : PySem.W.Frag} {H H' : Hp} {xs ys : List V}
end
theorem bagOk_nil : BagOk [] := ⟨List.Pairwise.nil, nofun, nofun⟩
end TP

namespace TP
open PySem PySem.Spec PyProof.Rows L2
end TP

namespace TP
open PySem PySem.Spec PyProof.Rows L2
section
variable {X : Cx}
end
section
variable {K : PySem.W.Frag} {H : Hp} {Q : VK} {a : Addr}
theorem w_ddel {td ty : TE} {σ : L2.St} {De : Ends} (h : td σ H fun x H1 => ty σ H1 fun y H2 => DelC x y H2 fun H3 => De.nx σ H3) : sDDel td ty De σ H := h
theorem w_daug {td ty tv : TE} {rd : V → V → Hp → VK → Prop} {σ : L2.St} {De : Ends} (h : td σ H fun x H1 => ty σ H1 fun y H2 => AugC x y tv σ rd H2 fun H5 => De.nx σ H5) : sDAug td ty tv rd De σ H := h
end
end TP

namespace TP
open PySem PySem.Spec PyProof.Rows L2
end TP

namespace TP
open PySem PySem.Spec PyProof.Rows L2
section
variable {prog : Program} {w : World} {A : Around} {E : Value → Shared → Prop} {s : Shared}
end
section
variable {X : Cx}
end
theorem w_dpop1 {td ty : TE} {σ : L2.St} {H : Hp} {Q : VK} (h : td σ H fun x H1 => ∃ a, x = .ref a ∧ IsD H1 a ∧ ty σ H1 fun y H2 => ∃ kvs k v, H2 a = some (.dK kvs) ∧ y = kV k ∧ valV kvs k = some v ∧ Q v (upd H2 a (.dK (dropK kvs k)))) : tDPop1 td ty σ H Q := h
end TP

namespace TP
open PySem PySem.Spec PyProof.Rows L2
/-- an expression with two ways, joined -/
theorem w_ifE {c : Bool} {ta tb : TE} {σ : L2.St} {Q : VK} {H : Hp} (P : V → Hp → Prop) (main : ∀ v H', P v H' → Q v H') (h1 : c = true → (∀ v H', P v H' → Q v H') → ta σ H Q) (h2 : c = false → (∀ v H', P v H' → Q v H') → tb σ H Q) : if c = true then ta σ H Q else tb σ H Q := by
  cases c with
  | true => rw [if_pos rfl]; exact h1 rfl main
  | false => rw [if_neg Bool.false_ne_true]; exact h2 rfl main
theorem w_revL {K : PySem.W.Frag} {te : TE} {σ : L2.St} {H : Hp} {Q : VK} (h : te σ H fun x H1 => RevC K x H1 Q) : tRevL K te σ H Q := h
theorem WordsOk.rev {ws : List Str} {n : Nat} (h : WordsOk ws n) : WordsOk ws.reverse n := ⟨by rw [List.length_reverse]; exact h.len, (List.reverse_perm ws).nodup_iff.mpr h.nd, fun w hw => h.nam w (List.mem_reverse.mp hw)⟩
end TP

namespace TP
open PySem PySem.Spec PyProof.Rows L2
end TP

namespace TP
open PySem PySem.Spec PyProof.Rows L2
end TP

namespace TP
open PySem PySem.Spec PyProof.Rows L2
end TP

namespace TP
open PySem PySem.Spec PyProof.Rows L2 TL
theorem tl_app (x y : Str) : tl (x ++ y) = tl x ++ tl y := app_list x y
theorem tl_name {x : Str} (h : isName x = true) : ∀ c ∈ tl x, 97 ≤ c ∧ c ≤ 122 := fun c hc => by
  have := List.all_eq_true.mp (isName_let h) c hc
  unfold isLet at this
  have h2 := Bool.and_eq_true_iff.mp this
  exact ⟨of_decide_eq_true h2.1, of_decide_eq_true h2.2⟩
theorem tl_intS {i : Int} (h : 0 ≤ i) : tl (intS i) = numL i.toNat := tl_int h
theorem digit_range {n c : Nat} (h : c ∈ numL n) : 48 ≤ c ∧ c ≤ 57 := by
  have r := numL_digits n c h
  constructor
  · refine Classical.byContradiction fun q => absurd h (numL_free (.inl (by omega)))
  · refine Classical.byContradiction fun q => absurd h (numL_free (.inr (by omega)))
theorem int_short {i : Int} (h0 : 0 ≤ i) (h1 : i ≤ 10 ^ 100) : (intS i).length ≤ 101 := by
  rw [len_list]
  show (tl (intS i)).length ≤ 101
  rw [tl_intS h0]
  refine numL_len (by decide) ?_
  have h2 : i.toNat ≤ 10 ^ 100 := by
    have e : ((10 ^ 100 : Nat) : Int) = 10 ^ 100 := by rw [Int.natCast_pow]; rfl
    omega
  exact Nat.lt_of_le_of_lt h2 (by decide)
theorem c_intS {X : Cx} : CallR X (.type "int") rIntS := call_int_str
theorem w_intS {a : Str} {n : Int} {H : Hp} {Q : VK} (h1 : intText? a = some n) (h2 : a.length ≤ 640) (h : Q (.int n) H) : rIntS [.str a] H Q := ⟨a, n, rfl, h1, h2, h⟩
end TP

namespace TP
open PySem PySem.Spec PyProof.Rows L2
theorem flying_keeps {B h h' : Heap} {l : List Env} {e : Addr} {Z : Obj → Prop} (x : HandSPX.FlyingZ B l e Z h) (k : ∀ b o, h.get? b = some o → h'.get? b = some o) : HandSPX.FlyingZ B l e Z h' := by
  obtain ⟨a, b, c, oe, vs, T, oT, ts, e1, e2, e3, e4, e5, e6, e7, e8, e9⟩ := x
  exact ⟨fun q o z => k _ _ (a q o z), b, c.of_keeps fun b o z _ => ⟨o, k _ _ z, rfl⟩, oe, vs, T, oT, ts, k _ _ e1, e2, e3, e4, e5, e6, k _ _ e7, e8, e9⟩
section
variable {X : Cx} {x1 x2 x3 n : Str} {c1 c2 c3 : Value} {i kk : Nat} {body suite : List Stmt} {b₀ : Stmt} {np1 np2 np3 tpos pos pos' : Pos} {tb : WX → TS} {ts : Addr → Value → Option Addr → TS} {Wout : WX}
theorem ps_try_as3 (hs : X.stack = X.env :: X.outer) (hf : X.env.frame = some X.env.locals) (hN : X.N.Nodup) (hi : X.N[i]? = some n) (hln : X.env.kindOf n = some .local) (hc1 : Names X x1 c1) (hc2 : Names X x2 c2) (hc3 : Names X x3 c3) (tk : Takes X Wout)
    (hb : ∀ (W : WX) (pn : List (Addr × Obj)) (xe : Value → Shared → Prop), Takes (X.tr pn xe) W → PassesOwn (model X.prog X.w) X.A X.env xe → PSs (X.tr pn xe) body (tb W))
    (hsu : ∀ (a : Addr) (oe : Obj) (cls : Value) (d : Option Addr) (pn : List (Addr × Obj)), Zc cls d oe → (∃ vs, oe.data = .fields vs) → PSs (X.suite a ((a, oe) :: pn)) (b₀ :: suite) (ts a cls d)) :
    PS X (.Try body [.ExceptHandler (some (.Tuple [.Name x1 np1, .Name x2 np2, .Name x3 np3] kk tpos)) (some n) (b₀ :: suite) pos'] [] [] pos) (fun D σ H => tb (wAs3 X.K c1 c2 c3 i ts Wout D) D σ H) := by
  refine ⟨fun pins s σ H D I h => ?_⟩
  have ok := I.ok
  have hfr : X.A.frames = some (X.env :: X.outer) := by rw [ok.frames, hs]
  have hloc : Loc X.env.scope n := .inl hln
  refine wpAny_Try_except ?_
  refine wpAny_mono ((hb (wAs3 X.K c1 c2 c3 i ts Wout D) (X.pn ++ pins) (fun e s₁ => wpAny (model X.prog X.w) X.A (noteFrame e X.env) (fun _ s₂ => wpAny (model X.prog X.w) X.A (setFlight e none) (fun _ s₃ =>
    wpAny (model X.prog X.w) X.A (handleBy e X.env [.ExceptHandler (some (.Tuple [.Name x1 np1, .Name x2 np2, .Name x3 np3] kk tpos)) (some n) (b₀ :: suite) pos']) (SP X pins D) X.xe s₃) X.xe s₂) X.xe s₁) (fun u s' xx => ?_) PassesOwn.looking).run [] s σ H D (I.toTry _) h) (fun f s1 hsp => ?_) (fun e s1 he => he)
  · obtain ⟨a, B, sI, pins', σ', H', cls, d, rfl, J', nb, up, sky, na, os, ag, b, hb1, hyes, hno⟩ := xx
    have J : Inv X pins σ' H' sI := J'.ofTry ok
    have sky' : Sky B (X.env :: X.outer) a (Zc cls d) X.env.locals s'.heap := by rw [← hs]; exact sky
    show wpAny (model X.prog X.w) X.A (noteFrame (.ref a) X.env) _ _ _
    refine Sky.land Zc.steady hfr hf sky' fun h3 fl3 up3 => ?_
    have J3 : Inv X pins σ' H' { s' with heap := h3 } := J.landed nb fl3.1 (up.trans up3) os ag
    obtain ⟨oe3, vs3, he3, hz3, hd3⟩ := fl3.there
    have notFr : ∀ {h : Heap} {o : Obj} {vs : Array Value}, h.FunFrames B (X.env :: X.outer) → h.get? a = some o → o.data = .fields vs → a ∉ frs (X.env :: X.outer) := fun {h o vs} ff e dd hm => by
      obtain ⟨_, o', e', hnf⟩ := ff.mem hm
      rw [e] at e'; cases e'
      exact hnf _ dd
    have nfr := notFr fl3.2.2.1 he3 hd3
    have nL : a ≠ X.env.locals := fun z => nfr (List.mem_filterMap.mpr ⟨X.env, List.mem_cons_self, by rw [hf, z]⟩)
    have nF : a ∉ X.fs := fun hm => by
      obtain ⟨e, he, q⟩ := List.mem_filterMap.mp hm
      exact nfr (List.mem_filterMap.mpr ⟨e, List.mem_cons_of_mem _ he, q⟩)
    have S3 := J3.suite he3 hd3 na nL nF
    refine wpAny_handleBy_cons (codeAny_handlers_test ?_) (by intro q; cases q)
    have LT : PySem.W.Looks (model X.prog X.w) h3 (typeOf (.ref a)) cls := fun A Q E s k q => wpAny_typeOf_ref (k _ _ he3) (by rw [hz3.1]; exact q)
    have test : ∀ {x : Str} {c : Value} {np : Pos}, Names X x c → ∀ {Q : Value → Shared → Prop} {E : Value → Shared → Prop}, Q c { s' with heap := h3 } → wpAny (model X.prog X.w) (X.A.mark (some (.ref a))) (eval (.Name x np) X.env) Q E { s' with heap := h3 } := fun {x c np} hc {Q E} q => by
      obtain ⟨hg, hdbg, hm | ⟨hm, hv, hnn⟩⟩ := hc
      · exact ld_glob (X := X.suite a ((a, oe3) :: (X.pn ++ pins))) S3 hg hm q hdbg
      · exact ld_blt (X := X.suite a ((a, oe3) :: (X.pn ++ pins))) S3 hg hm hv q hnn hdbg
    refine wpAny_Tuple ?_
    refine wpAny_items_cons (test hc1 ?_)
    refine wpAny_items_cons (test hc2 ?_)
    refine wpAny_items_cons (test hc3 ?_)
    refine wpAny_items_nil ⟨by size_fits, ?_⟩
    have kp : ∀ q o, h3.get? q = some o → (h3.push { cls := .type "tuple", data := .seq [c1, c2, c3].toArray }).get? q = some o := fun _ _ z => Heap.get?_push_of_some _ z
    refine (PySem.W.exm_tup3 (M := model X.prog X.w) ((J3.kIn).keeps kp) (LT.keeps kp) (Heap.get?_push_size h3 rfl) hb1).here ?_
    have flT := flying_keeps fl3 kp
    have upT := up3.trans (Heap.UpToSlots.of_keeps kp)
    generalize h3.push { cls := .type "tuple", data := .seq [c1, c2, c3].toArray } = hT at flT upT
    cases b with
    | true =>
      refine codeAny_handlers_suite_as ?_
      refine HandSPX.lands_againZ flT fun h4 fl4 up4 => ?_
      have J4 : Inv X pins σ' H' { s' with heap := h4 } := J.landed nb fl4.1 ((up.trans upT).trans up4) os ag
      obtain ⟨oe4, vs4, he4, hz4, hd4⟩ := fl4.there
      have S4 := J4.suite he4 hd4 na nL nF
      refine store_ok (X := X.suite a ((a, oe4) :: (X.pn ++ pins))) (v := .ref a) S4 hN hi hloc rfl (fun s5 S5 => ?_) (.inr hln)
      refine wpAny_mono ((hsu a oe4 cls d (X.pn ++ pins) hz4 ⟨_, hd4⟩).run [] s5 _ H' _ S5 (hyes rfl a na)) (fun f s6 hsp => ?_) (fun _ _ z => False.elim z)
      have end_ : ∀ {σ6 : L2.St} {H6 : Hp} {Q : Shared → Prop}, Inv (X.suite a ((a, oe4) :: (X.pn ++ pins))) [] σ6 H6 s6 → (∀ s7, Inv X pins (σ6.set i none) H6 s7 → Q s7) →
          wpAny (model X.prog X.w) X.A (do bindName X.env n .none; unbindBehindTheSuite X.env n pos') (fun _ s7 => Q s7) X.xe s6 := fun {σ6 H6 Q} S6 hq => gone_ok (S6.unsuite ok) hN hi hln hq
      cases f with
      | next =>
        obtain ⟨σ6, H6, S6, q6⟩ := hsp
        exact end_ S6 fun s7 J7 => ⟨_, _, J7, q6⟩
      | brk =>
        obtain ⟨σ6, H6, S6, q6⟩ := hsp
        exact end_ S6 fun s7 J7 => ⟨_, _, J7, q6⟩
      | cont =>
        obtain ⟨σ6, H6, S6, q6⟩ := hsp
        exact end_ S6 fun s7 J7 => ⟨_, _, J7, q6⟩
      | ret u =>
        obtain ⟨v6, σ6, H6, S6, r6, q6⟩ := hsp
        exact end_ S6 fun s7 J7 => ⟨_, _, _, J7, r6, q6⟩
    | false =>
      show wpAny _ X.A (handleBy (.ref a) X.env []) _ _ _
      refine wpAny_handleBy_nil ?_
      obtain ⟨k1, k2, k3, oe, vs, T, oT, ts', he, hz, hd, h1, hr⟩ := id flT
      unfold PySem.passOn
      refine wpAny_bind (wpAny_field he hd h1 ?_)
      rw [if_neg (show ¬ ((Value.ref T == Value.none) = true) from by simp)]
      have fin : wpAny (model X.prog X.w) X.A (setFlight (.ref a) X.env.frame) (fun _ s4 => wpAny (model X.prog X.w) X.A (throw (.ref a) : Sem Flow) (SP X pins D) X.xe s4) X.xe { s' with heap := hT } := by
        rw [hf]
        refine HandSPX.setFlight_upZ flT fun h4 hh4 up4 => wpAny_throw (tk _ _ ?_)
        exact ⟨a, B, sI, pins, σ', H', cls, d, rfl, J, nb, (up.trans upT).trans up4, .inr (.inr (by rw [hs]; exact hh4)), na, os, ag, hno rfl⟩
      first
        | exact wpAny_bind (wpAny_pure (wpAny_bind fin))
        | exact wpAny_bind fin
  · cases f with
    | next =>
      obtain ⟨σ', H', J', q⟩ := hsp
      exact wpAny_execs_nil ⟨σ', H', J'.ofTry ok, q⟩
    | brk =>
      obtain ⟨σ', H', J', q⟩ := hsp
      exact ⟨σ', H', J'.ofTry ok, q⟩
    | cont =>
      obtain ⟨σ', H', J', q⟩ := hsp
      exact ⟨σ', H', J'.ofTry ok, q⟩
    | ret u =>
      obtain ⟨v, σ', H', J', r, q⟩ := hsp
      exact ⟨v, σ', H', J'.ofTry ok, r, q⟩
end
end TP
namespace TPX
open PySem PySem.W PySem.Spec PySem.Calls PyProof.Rows
section
variable {prog : Program} {w : World} {A : Around} {E : Value → Shared → Prop} {s : Shared} {K : Frag} {x D : Addr} {ox : Obj} {od : Option Obj}
theorem findObj_dataA {C : Addr} {name : Str} {a g : Value} (hc : (clsIn K C).isSome = true) (ha : findIn K (.ref C) name = some (some a)) (hg : specialIn K a "__get__" = some (some g)) (ht : takesIn K a = some true) : findObj K C od name = some (.bind g a) := by
  obtain ⟨cd, hc⟩ := Option.isSome_iff_exists.mp hc
  unfold findObj
  rw [hc, Option.bind_some, ha, Option.bind_some]
  simp [hg, ht]
theorem kin_classA {Q : Option Value → Shared → Prop} (hga : findIn K (.ref D) "__getattribute__" = some (some (.builtin "BaseException.__getattribute__"))) (hgt : findIn K (.ref D) "__getattr__" = some none) (hsub : subIn K (.ref D) (.type "BaseException") = some true)
    (hdct : hasDictIn K D = true) (ha : findIn K (.ref D) "__class__" = some (some (.builtin "object.__class__")))
    (hn : specialIn K (.builtin "object.__class__") "__get__" = some (some (.builtin "getset_descriptor.__get__"))) (htk : takesIn K (.builtin "object.__class__") = some true) (hm : mroIn K D (.type "object") = some true)
    (X : K.In s.heap) (I : InstAt s.heap x ox D od) (h : Q (some (.ref D)) { s with toks := s.toks + 1 }) : wpAny (model prog w) A (getAttr? (.ref x) "__class__") Q E s := by
  have hf : findObj K D od "__class__" = some (.bind (.builtin "getset_descriptor.__get__") (.builtin "object.__class__")) := findObj_dataA (by obtain ⟨cd, hc, _⟩ := any_some hdct; rw [hc]; rfl) ha hn htk
  obtain ⟨hp, g, d, t, os⟩ := s
  have L0 := I.type (M := model prog w)
  have L1 := looks_findIn (M := model prog w) X hga
  have L2 := looks_findIn (M := model prog w) X hgt
  have L3 := looks_find (M := model prog w) X I hf
  have sub : Looks (model prog w) hp (isInstance (.ref x) (.type "BaseException")) true := L0.andThen (looks_subIn X hsub)
  have hx0 : (false && onTheHeap (Value.builtin "BaseException.__getattribute__")) = false := rfl
  have hx2 : (Value.builtin "BaseException.__getattribute__" == Value.builtin "object.__getattribute__") = false := by decide +kernel
  have hx1 : (onTheHeap (Value.ref D) && Value.builtin "BaseException.__getattribute__" == Value.builtin "object.__getattribute__") = false := by rw [hx2]; rfl
  unfold getAttr? getAttrBy? getAttrBy
  refine wpAny_bind (wpAny_mkText (wpAny_bind (wpAny_attempt (wpAny_holding (wpAny_bind (L0.at (wpAny_bind (L1.at ?_))))))))
  show wpAny _ _ (if (onTheHeap (Value.ref D) && Value.builtin "BaseException.__getattribute__" == Value.builtin "object.__getattribute__") = true then _ else _) _ _ _
  rw [hx1, if_neg Bool.false_ne_true]
  unfold getAttrByItsOwn hookBefore
  refine wpAny_bind ?_
  rw [if_pos (show onTheHeap (Value.ref D) = true from rfl)]
  refine L2.at ?_
  refine wpAny_bind (wpAny_attempt (wpAny_holding ?_))
  unfold callGetattribute
  rw [hx0, if_neg Bool.false_ne_true]
  unfold boundAndCalled
  rw [PySem.F.excAttr_ValueError.ga.bind (.ref x)]
  refine wpAny_bind (wpAny_pure ?_)
  show wpAny _ _ (call (.builtin "BaseException.__getattribute__") [.ref x, .str "__class__" t]) _ _ _
  refine wpAny_call (codeAny_call_builtin PySem.F.excAttr_ValueError.ga.plain PySem.F.entry_bexc_ga ?_)
  refine @check_slot (model prog w) _ _ ⟨hp, g, d, t + 1, os⟩ "BaseException.__getattribute__" "BaseException" "__getattribute__" (.ref x) [.str "__class__" t] [] _ (by decide +kernel) (by decide +kernel) sub (PySem.F.args_bexc_ga (.ref x) (.str "__class__" t)) ?_
  unfold Builtin.«object.__getattribute__»
  refine wpAny_bind (wpAny_of_eq (a := ((Value.ref x : Value), [Value.str "__class__" t])) (by first | rfl | (simp only [slotArgs]; rfl)) ?_)
  refine wpAny_bind (wpAny_pure (wpAny_bind (L0.at (wpAny_bind (L3.at ?_)))))
  show wpAny _ _ (holding [Value.builtin "object.__class__"] (call (.builtin "getset_descriptor.__get__") [.builtin "object.__class__", .ref x, .ref D]) >>= ret) _ _ _
  refine wpAny_bind (wpAny_holding (wpAny_call (class_get (s := ⟨hp, g, d, t + 1, os⟩) (ox := ox) (od := od) X I hm ?_)))
  refine wpAny_pure ?_
  show wpAny _ _ (handedOut (.ref D)) _ _ _
  rw [handedOut_of (v := .ref D) rfl]
  first
    | exact wpAny_pure (wpAny_pure h)
    | exact wpAny_pure h
    | exact wpAny_pure (wpAny_bind (wpAny_pure (wpAny_pure h)))
theorem kitx_excA (hga : findIn K (.ref D) "__getattribute__" = some (some (.builtin "BaseException.__getattribute__"))) (hgt : findIn K (.ref D) "__getattr__" = some none) (hsub : subIn K (.ref D) (.type "BaseException") = some true) (hdct : hasDictIn K D = true) (ha : findIn K (.ref D) "__class__" = some (some (.builtin "object.__class__")))
    (hn : specialIn K (.builtin "object.__class__") "__get__" = some (some (.builtin "getset_descriptor.__get__"))) (htk : takesIn K (.builtin "object.__class__") = some true) (hm : mroIn K D (.type "object") = some true) :
    KitX K (.ref x) (.ref D) (fun h => InstAt h x ox D od) where
  ty := fun _ _ _ I => I.type
  it := fun _ _ X _ => by
    obtain ⟨cdD, hcD, _⟩ := any_some hdct
    unfold clsIn at hcD
    split at hcD
    · rename_i c' d' cd' sl' ho
      intro A' Q' E' s' k q
      unfold isType loadHead
      exact wpAny_bind (wpAny_loadPart (k _ _ (X _ _ ho)) (wpAny_pure q))
    · cases hcD
  ne := fun h tp dd its n sl X htp => by
    obtain ⟨cdD, hcD, _⟩ := any_some hdct
    refine Bool.eq_false_iff.mpr fun q => ?_
    have e : D = tp := Value.ref.inj (beq_iff_eq.mp q)
    subst e
    unfold clsIn at hcD
    split at hcD
    · rename_i c' d' cd' sl' ho
      have z := (X _ _ ho).symm.trans htp
      cases z
    · cases hcD
  ca := fun X I k => kin_classA hga hgt hsub hdct ha hn htk hm X I k
end
end TPX
namespace TP
open PySem PySem.Spec PyProof.Rows L2
theorem Held.inst {X : Cx} {p : Addr × Obj} {D dd : Addr} {fs : List (Str × V)} {pins : List (Addr × Obj)} {σ : L2.St} {H : Hp} {s : Shared} (h : Held X p D dd) (I : Inv X pins σ H s) (hd : H dd = some (.xd fs)) :
    ∃ (od : Obj) (mA : Str → Option Value), PySem.W.InstAt s.heap p.1 p.2 D (some od) ∧ True := by
  obtain ⟨ha, _⟩ := I.pin p (List.mem_append_left _ h.pin)
  obtain ⟨vs, hv⟩ := h.f
  have hx : ObjOk X.prog X.w H s.heap dd (.xd fs) := I.hok dd _ hd
  obtain ⟨mA, hns, hr⟩ := hx
  obtain ⟨od, ho, hl⟩ := lookIn_ns hns
  exact ⟨od, mA, ⟨ha, h.z.1, by unfold PySem.W.notCls; rw [hv] <;> rfl, by rw [h.z.2]; exact ho⟩, trivial⟩
theorem call_isP {X : Cx} {p : Addr × Obj} {D dd : Addr} (C : ExcC X.K D) (hh : Held X p D dd) : CallR X (.builtin "isinstance") (rIsP X.K p.1 D dd) := by
  intro pins s σ H xs us Q I r h
  obtain ⟨c, cv, b, fs, rfl, hcv, hd, e, q⟩ := h
  obtain ⟨u1, u2, rfl, r1, r2⟩ := vals2 r
  have e2 := hcv.eq r2
  subst e2
  cases (show u1 = Value.ref p.1 from r1)
  obtain ⟨od, mA, J, _⟩ := hh.inst I hd
  exact PySem.W.kia_one (TPX.kitx_excA C.hg C.hk C.hs C.hd C.ha C.hn C.ht C.hm) I.kIn J e (fun z => nomatch z) fun tk => ⟨.bl b, H, I.tok tk, rfl, q⟩
theorem call_isPT {X : Cx} {p : Addr × Obj} {D dd : Addr} (C : ExcC X.K D) (hh : Held X p D dd) : CallR X (.builtin "isinstance") (rIsPT X.K p.1 D dd) := by
  intro pins s σ H xs us Q I r h
  obtain ⟨tp, cs, ws, b, fs, rfl, hT, k, hd, e, q⟩ := h
  obtain ⟨u1, u2, rfl, r1, r2⟩ := vals2 r
  cases (show u1 = Value.ref p.1 from r1)
  cases (show u2 = Value.ref tp from r2)
  obtain ⟨od, mA, J, _⟩ := hh.inst I hd
  obtain ⟨_, its, rv, o, h1, h2, n, h3⟩ := (show ObjOk X.prog X.w H s.heap tp (.tup cs) from I.hok tp _ hT)
  have e3 := ClsV.all k rv
  subst e3
  obtain ⟨oc, od', dt, sl⟩ := o
  simp only at h2 h3
  subst h2 h3
  exact PySem.W.kia_tup (TPX.kitx_excA C.hg C.hk C.hs C.hd C.ha C.hn C.ht C.hm) I.kIn J h1 e (fun z => nomatch z) fun tk => ⟨.bl b, H, I.tok tk, rfl, q⟩
theorem pe_xp {X : Cx} {p : Addr × Obj} {D dd : Addr} {e : Expr} {te : TE} {pos : Pos} {n : Str} (T : XfC X.K D) (hno : PySem.W.findIn X.K (.ref D) n = some none) (hh : Held X p D dd) (he : PE X e te) (hb : attributeBase e n X.env (eval e X.env) = eval e X.env := by rfl) :
    PE X (.Attribute e n pos) (tXp p.1 dd n te) := by
  refine ⟨fun pins s σ H Q I h => ?_⟩
  refine attr_of hb (thn (he.run pins s σ H _ I h) fun u s1 hh' => ?_)
  obtain ⟨x, H1, I1, rx, ex, fs, v, ea, l, q⟩ := hh'
  subst ex
  obtain rfl : u = Value.ref p.1 := rx
  obtain ⟨ha, _⟩ := I1.pin p (List.mem_append_left _ hh.pin)
  obtain ⟨vs, hd⟩ := hh.f
  have hx : ObjOk X.prog X.w H1 s1.heap dd (.xd fs) := I1.hok dd _ ea
  obtain ⟨mA, hns, hr⟩ := hx
  obtain ⟨od, ho, hl⟩ := lookIn_ns hns
  obtain ⟨u, hu, ru⟩ := RelO.some_of (v := v) (o := mA n) (by rw [← l]; exact hr n)
  have J : PySem.W.InstAt s1.heap p.1 p.2 D (some od) := ⟨ha, hh.z.1, by unfold PySem.W.notCls; rw [hd] <;> rfl, by rw [hh.z.2]; exact ho⟩
  exact HandSPX.exc_get I1.kIn J T.ga T.gg T.exC (PySem.W.findObj_own T.hdC hno rfl (by rw [hl, hu])) (handed_of ru) ⟨v, H1, I1.tok _, ru, q⟩
theorem fnP_of {P : Program} {w : World} {K : PySem.W.Frag} {mg : Str → Option Value} {base : Heap} {k : Nat} {f : Addr} {x qual : Str} {params : Arguments} {body : List Stmt} {scope : Scope} {dvs : List V} {kws : List (Str × V)} {fd : FuncData} {N ps : List Str} {sp : Addr × Obj → Sp}
    (F : FunD K x qual params body scope dvs kws f fd) (S : FnScope N ps scope) (len : ∀ p vs H Q E, sp p vs H Q E → vs.length = ps.length)
    (hbody : ∀ (cdv : Value) (A : Around) (outer : List Env) (s : Shared) (H : Hp) (vs : List V) (Q : VK) (E : XK) (p : Addr × Obj), RoomH k (A.deeper (envOfC qual scope s.heap.objs.size f cdv)) → (A.deeper (envOfC qual scope s.heap.objs.size f cdv)).guards = some [] → sp p vs H Q E →
      ∃ t, PSs (L2H.cxH CX0 P w K mg base N qual scope f cdv A outer s H E p) body t ∧ t { nx := fun _ H' => Q .non H', rt := Q } (start N vs) H) :
    FnP P w K mg base (k + 1) f fd ps sp := by
  obtain ⟨oc, od, dV, kV, doc, pm, an, cdv, ct, osl, rfl, lk, hcd, _, _⟩ := F.ex
  refine ⟨len, fun A outer s H args us vs Q E p hr hg hpin e0 hb r hsp => ?_⟩
  have hl := len _ _ _ _ _ hsp
  have kx : K.In s.heap := e0.mod.kin.keeps fun b o e => (e0.bs b o e).1
  have nl : s.heap.NoLimit := e0.mod.nolimit.keeps fun b o e => (e0.bs b o e).1
  refine codeAny_call_function hr.depth (kx _ _ lk) rfl S.co S.gen rfl (PySem.W.codeRec_of kx hcd) (hb _ _ _ _ ?_)
  refine wpAny_newFunctionEnv_cells S.kind (fun ⟨n, v⟩ hy => by
    rcases S.par n (List.of_mem_zip hy).1 with q | q
    · exact .inl q
    · exact .inr ⟨q, PySem.W.cellsFrom_some _ _ _ (.inl q)⟩) fun env he s1 ic => ?_
  subst he
  refine ⟨nl.keeps ic.toInCall.keep, codeAny_func ?_⟩
  obtain ⟨t, ht, hq⟩ := hbody cdv A outer s H vs Q E p (hr.deeper _) hg hsp
  have I0 := L2H.inv_startH (CX := CX0) (E := E) S hpin e0 hl r ic
  refine wpAny_mono (ht.run [] s1 (start N vs) H _ I0 hq) (fun fl s' hs => ?_) fun e s' hs => hs
  cases fl with
  | ret u =>
    obtain ⟨v, σ', H', J, rv, q⟩ := hs
    exact ⟨v, H', J.os, J.bare, J.base, J.hok, rv, q⟩
  | next =>
    obtain ⟨σ', H', J, q⟩ := hs
    exact ⟨.non, H', J.os, J.bare, J.base, J.hok, rfl, q⟩
  | brk =>
    obtain ⟨_, _, _, q⟩ := hs
    exact q.elim
  | cont =>
    obtain ⟨_, _, _, q⟩ := hs
    exact q.elim
theorem Dfd.hasP {P : Program} {w : World} {K : PySem.W.Frag} {mg : Str → Option Value} {base : Heap} {k : Nat} {x : Str} {st : Stmt} {N ps : List Str} {sp : Addr × Obj → Sp} (D : Dfd K mg x st) (S : FnScope N ps (defScope st)) (len : ∀ p vs H Q E, sp p vs H Q E → vs.length = ps.length)
    (hbody : ∀ (cdv : Value) (A : Around) (outer : List Env) (s : Shared) (H : Hp) (vs : List V) (Q : VK) (E : XK) (p : Addr × Obj), RoomH k (A.deeper (envOfC x (defScope st) s.heap.objs.size (He.ga K x) cdv)) → (A.deeper (envOfC x (defScope st) s.heap.objs.size (He.ga K x) cdv)).guards = some [] → sp p vs H Q E →
      ∃ t, PSs (L2H.cxH CX0 P w K mg base N x (defScope st) (He.ga K x) cdv A outer s H E p) (defBody st) t ∧ t { nx := fun _ H' => Q .non H', rt := Q } (start N vs) H) :
    HasP P w K mg base (k + 1) x st ps sp := by
  obtain ⟨fd, F⟩ := D.ex
  exact ⟨⟨fd, F, fnP_of F S len hbody⟩, D.glo⟩
theorem pe_fnP {X : Cx} {k : Nat} {ps : List Str} {sp : Addr × Obj → Sp} {x : Str} {st : Stmt} {q pos : Pos} {e : Expr} {es : List Expr} {t : TA} {p : Addr × Obj} (F : HasP X.prog X.w X.K X.mg X.base k x st ps sp) (hb : PosB x st ps) (hp : p ∈ X.pn) (hr : RoomH k X.A) (hg : X.A.guards = some []) (hgl : Gl X x)
    (ha : PA X (e :: es) t) (hdb : (x == ("__debug__" : Str)) = false := by decide) (he : starEach (e :: es) X.env = (false, eval e X.env) :: starEach es X.env := by rfl)
    (hpl : (backTo pos (starEach es X.env)).any (·.1) = false := by rfl) : PE X (.Call (.Name x q) (e :: es) [] pos) (tCall (sp p) [] E0 t) := by
  obtain ⟨fd, FD, G⟩ := F.ex
  refine ⟨fun pins s σ H Q I h => ?_⟩
  refine wpAny_Call_Name_kw (ld_glob I hgl F.glo ?_ hdb)
  refine PySem.W.callWith_K (h₀ := X.base) I.ok.mod.kin FD.kp (thn (ha.run pos pins s σ H _ I h) fun us s1 ⟨vs, H1, I1, r, q⟩ => ⟨I1.kIn, ?_⟩) he hpl
  have q2 : sp p vs H1 Q E0 := by rw [← List.append_nil vs]; exact q
  obtain ⟨kV, doc, pm, an, cdv, ct, rfl⟩ := FunD.noDef FD
  have P1 := I1.pin p (List.mem_append_left _ hp)
  have hpin : PinOk X.stack H1 s1 p := ⟨P1.1, P1.2.1, fun hm => (List.mem_cons.mp (I1.stkSub p.1 hm)).elim P1.2.2.1 P1.2.2.2.1, P1.2.2.2.2⟩
  have b := hb kV doc pm an cdv ct us (by rw [← r.length]; exact G.len _ _ _ _ _ q2)
  refine wpAny_call (codeAny_mono (G.run X.A X.stack s1 H1 ⟨us, []⟩ us vs Q E0 p hr hg hpin I1.env0 (.of_eq b) r q2) fun z s' hq => ?_)
  cases z with
  | error e => exact (show False from hq).elim
  | ok fl =>
    cases fl with
    | ret u => exact I1.after hq
    | next => exact hq.elim
    | brk => exact hq.elim
    | cont => exact hq.elim
end TP

namespace TP
open PySem PySem.Spec PyProof.Rows L2 LamX
/-- law_call with tables: cs, the code objects and their tables -/
theorem law_callGT {P : Program} {w : World} {K : PySem.W.Frag} {mg mb : Str → Option Value} {k : Nat} {fa a : Addr} {cs : List (Addr × Addr)} {fd : FuncData} {x : Str} {sp : Sp} {s₁ : Shared} {vs : List Value} {ns : List Int}
    (KX : K.In s₁.heap) (hns : s₁.heap.Ns mainGlobals mg) (hb : s₁.heap.Ns builtinsNs mb) (hbb : ∀ x : Str, x ≠ "__name__" → mb x = bootBuiltins x) (hlim : s₁.heap.NoLimit) (hg : s₁.gens = #[])
    (hT : ∀ p ∈ cs, s₁.heap.get? p.2 = some { cls := .none, data := .fields #[] }) (nT : ∀ p ∈ cs, K.lookup p.2 = none) (C : ∀ p ∈ cs, PySem.W.CodeHd s₁.heap p.1 p.2)
    (hbm : ∃ (bm : Addr) (ob : Obj), mg "__builtins__" = some (.ref bm) ∧ bm ≠ builtinsNs ∧ s₁.heap.get? bm = some ob ∧ ob.cls = .type "module" ∧ ob.dict = some builtinsNs ∧ ob.data = .plain)
    (ha : s₁.heap.get? a = some { cls := .type "list", data := .seq vs.toArray }) (hi : IntsAre vs ns) (hl : ns.length ≤ sizeLine) (hr : Room k callerA)
    (F : ∀ base : Heap, K.In base → base.Ns mainGlobals mg → (∀ p ∈ cs, TabB base mg p.1 p.2) → FnG P w K mg base CX0 k fa fd [x] sp) (hbind : ∀ (s : Shared) (u : Value), BindsTo s fd ⟨[u], []⟩ [(x, u)])
    (hsp : ∀ H : Hp, (∀ p ∈ cs, H p.2 = some (.tbl #[])) → SqL K H a (ns.map V.int) → sp [.ref a] H (fun v _ => v = .bl true) fun _ _ _ => False) :
    codeAny (model P w) callerA (.call (.ref fa) ⟨[.ref a], []⟩) (fun r s' => r = .ok (.ret (.bool true)) ∧ OldK s₁.heap s'.heap ∧ s'.os = s₁.os ∧ AllBare s'.gens) s₁ := by
  have rv := vals_ints hi
  have lenV := hi.length
  have isT : ∀ b : Addr, b ∈ cs.map (·.2) → s₁.heap.get? b = some { cls := .none, data := .fields #[] } := fun b hb => by
    obtain ⟨p, hp, e⟩ := List.mem_map.mp hb
    rw [← e]
    exact hT p hp
  have aT : a ∉ cs.map (·.2) := fun z => by
    have q := isT a z
    rw [ha] at q
    have z' : Data.seq vs.toArray _ = Data.fields #[] := congrArg Obj.data (Option.some.inj q)
    cases z'
  have memT : ∀ p ∈ cs, p.2 ∈ cs.map (·.2) := fun p hp => List.mem_map.mpr ⟨p, hp, rfl⟩
  -- from an abstract heap in which nothing but the script and the tables may be tracked
  have core : ∀ H : Hp, (∀ p ∈ cs, H p.2 = some (.tbl #[])) → (∀ b, H b = none ∨ b ∈ cs.map (·.2) ∨ ∃ o xs, H b = some (.frz o (.lst xs))) → SqL K H a (ns.map V.int) → HOk P w H s₁.heap → (∀ b, H b ≠ none → b = a ∨ b ∈ cs.map (·.2)) → (H a ≠ none → K.lookup a = none) →
      codeAny (model P w) callerA (.call (.ref fa) ⟨[.ref a], []⟩) (fun r s' => r = .ok (.ret (.bool true)) ∧ OldK s₁.heap s'.heap ∧ s'.os = s₁.os ∧ AllBare s'.gens) s₁ := by
    intro H hH hO hS hok hA hK
    have base_of : ∀ {b : Addr} {o : Obj}, s₁.heap.get? b = some o → H b = none → (hidT s₁.heap H).get? b = some o := fun e n => hidT_get e n
    have noD : ∀ {b : Addr} {o : Obj}, s₁.heap.get? b = some o → (∀ vs n, o.data ≠ .seq vs n) → o.data ≠ .fields #[] → H b = none := fun {b o} e h1 h2 => by
      cases q : H b with
      | none => rfl
      | some u =>
        rcases hA b (by rw [q]; simp) with e' | e'
        · rw [e', ha] at e
          cases e
          exact (h1 _ _ rfl).elim
        · rw [isT b e'] at e
          cases e
          exact (h2 rfl).elim
    have noA : ∀ {b : Addr} {o : Obj} {es : Array DictEntry} {ep : Nat}, s₁.heap.get? b = some o → o.data = .dict es ep → H b = none := fun {b o es ep} e d => by
      refine noD e (fun vs n z => ?_) fun z => ?_
      · rw [d] at z
        cases z
      · rw [d] at z
        cases z
    have nsK : ∀ {b : Addr} {m : Str → Option Value}, s₁.heap.Ns b m → (hidT s₁.heap H).Ns b m := fun {b m} ⟨o, es, ep, e, d, r⟩ => ⟨o, es, ep, base_of e (noA e d), d, r⟩
    have hKb : K.In (hidT s₁.heap H) := fun b o e => base_of (KX b o e) (by
      cases q : H b with
      | none => rfl
      | some u =>
        rcases hA b (by rw [q]; simp) with e' | e'
        · rw [e'] at e q
          rw [hK (by rw [q]; simp)] at e
          cases e
        · obtain ⟨p, hp, ep⟩ := List.mem_map.mp e'
          rw [← ep, nT p hp] at e
          cases e)
    have hM : L2.Mod K mg (hidT s₁.heap H) := ⟨hKb, nsK hns, ⟨mb, nsK hb, hbb⟩, let ⟨mc, h1, h2⟩ := hlim; ⟨mc, nsK h1, h2⟩⟩
    have TB : ∀ p ∈ cs, TabB (hidT s₁.heap H) mg p.1 p.2 := fun p hp => by
      have hTp := hT p hp
      refine ⟨?_, ?_, fun z => ?_⟩
      · obtain ⟨o, us, file, tf, flags, tg, inF, text, tt, e1, r1, r2, r3, r4, r5, r6, r7, r8, hne⟩ := C p hp
        refine ⟨o, us, file, tf, flags, tg, inF, text, tt, base_of e1 (noD e1 (fun vs n z => ?_) fun z => ?_), r1, r2, r3, r4, r5, r6, r7, r8, hne⟩
        · rw [r2] at z
          cases z
        · rw [r2] at z
          cases z
          simp at r3
      · obtain ⟨bm, ob, b1, b2, b3, b4, b5, b6⟩ := hbm
        have nG : bm ≠ mainGlobals := fun q => by
          obtain ⟨o, es, ep, e, hd, _⟩ := hns
          rw [q, e] at b3
          cases b3
          rw [hd] at b6
          cases b6
        have nP : bm ≠ p.2 := fun q => by
          rw [q, hTp] at b3
          cases b3
          cases b6
        refine ⟨bm, ob, b1, b2, nG, nP, base_of b3 (noD b3 (fun vs n z => ?_) fun z => ?_), b4, b5, b6⟩
        · rw [b6] at z
          cases z
        · rw [b6] at z
          cases z
      · obtain ⟨o, es, ep, e, hd, _⟩ := hns
        rw [z, hTp] at e
        cases e
        cases hd
    have e0 : Env0 P w K mg (hidT s₁.heap H) callerA [] s₁ H := ⟨rfl, hM, fun b o e => of_hidT e, Nat.le_of_eq (hidT_size _ _), trivial, fun b hb => absurd (show b ∈ ([] : List Addr) from hb) (by simp), hok, .of_eq hg⟩
    refine codeAny_mono ((F _ hKb (nsK hns) TB).run callerA [] s₁ H ⟨[.ref a], []⟩ [.ref a] [.ref a] _ _ hr rfl e0 (hbind s₁ (.ref a)) (.cons rfl .nil) (hsp H hH hS)) fun r s' h => ?_
    cases r with
    | error e => exact (show False from h).elim
    | ok fl =>
      cases fl with
      | next => exact False.elim h
      | brk => exact False.elim h
      | cont => exact False.elim h
      | ret u =>
        obtain ⟨v, H', os, bare, un, hok', r', q⟩ := h
        have q' : v = .bl true := q
        subst q'
        obtain rfl : u = Value.bool true := r'
        have key : ∀ b o, b ∉ cs.map (·.2) → s₁.heap.get? b = some o → s'.heap.get? b = some o := fun b o nb e => by
          cases q : H b with
          | none => exact un.keep b o e q (by intro z; exact absurd (show b ∈ ([] : List Addr) from z) (by simp)) (by simp)
          | some u =>
            rcases hO b with z | z | ⟨ob, xs, z⟩
            · rw [q] at z; cases z
            · exact absurd z nb
            · have z2 := un.frzs b ob _ z
              obtain ⟨e1, _⟩ := hok b _ z
              obtain ⟨e2, _⟩ := hok' b _ z2
              rw [e] at e1; cases e1
              exact e2
        have grown : ∀ p ∈ cs, ∃ more : Array Value, s'.heap.get? p.2 = some { cls := .none, data := .fields more } := fun p hp => by
          obtain ⟨more, z⟩ := un.tbls p.2 #[] (hH p hp)
          exact ⟨_, hok' p.2 _ z⟩
        refine ⟨rfl, ⟨fun b o e => ?_, fun b o e => ?_⟩, os, bare⟩
        · by_cases hb : b ∈ cs.map (·.2)
          · obtain ⟨p, hp, ep⟩ := List.mem_map.mp hb
            obtain ⟨more, hm⟩ := grown p hp
            rw [← ep] at e ⊢
            rw [hT p hp] at e
            cases e
            exact .inr (.inl ⟨((C p hp).tab (hT p hp)).isCodeTable, rfl, #[], more, rfl, by rw [Array.empty_append]; exact hm⟩)
          · exact .inl (key b o hb e)
        · by_cases hb : b ∈ cs.map (·.2)
          · obtain ⟨p, hp, ep⟩ := List.mem_map.mp hb
            obtain ⟨more, hm⟩ := grown p hp
            rw [← ep]
            exact ⟨_, hm⟩
          · exact ⟨o, key b o hb e⟩
  cases hk : K.lookup a with
  | some o =>
    have e := KX a o hk
    rw [ha] at e
    cases e
    refine core (fun b => if b ∈ cs.map (·.2) then some (.tbl #[]) else none) (fun p hp => if_pos (memT p hp)) (fun b => ?_) (.inr ⟨_, vs.toArray, _, hk, rfl, rfl, rfl, by rw [List.size_toArray, lenV]; exact hl, by simpa using rv⟩) (fun b u z => ?_) (fun b z => ?_) fun z => absurd (show (if a ∈ cs.map (·.2) then some (HO.tbl #[]) else none) = none from if_neg aT) z
    · by_cases hb : b ∈ cs.map (·.2)
      · exact .inr (.inl hb)
      · exact .inl (if_neg hb)
    · by_cases hb : b ∈ cs.map (·.2)
      · have z' := (if_pos hb).symm.trans z
        cases z'
        exact isT b hb
      · have z' := (if_neg hb).symm.trans z
        cases z'
    · by_cases hb : b ∈ cs.map (·.2)
      · exact .inr hb
      · exact absurd (if_neg hb) z
  | none =>
    refine core (fun b => if b = a then some (.frz { cls := .type "list", data := .seq vs.toArray } (.lst (ns.map V.int))) else if b ∈ cs.map (·.2) then some (.tbl #[]) else none) (fun p hp => (if_neg (show ¬ p.2 = a from fun z => aT (by rw [← z]; exact memT p hp))).trans (if_pos (memT p hp))) (fun b => ?_)
      (.inl (.inr ⟨{ cls := .type "list", data := .seq vs.toArray }, if_pos rfl⟩)) (fun b u z => ?_) (fun b z => ?_) fun _ => hk
    · by_cases hb : b = a
      · exact .inr (.inr ⟨_, _, if_pos hb⟩)
      · by_cases hb2 : b ∈ cs.map (·.2)
        · exact .inr (.inl hb2)
        · exact .inl ((if_neg hb).trans (if_neg hb2))
    · by_cases hb : b = a
      · have z' := (if_pos hb).symm.trans z
        cases z'
        rw [hb]
        exact ⟨ha, by rw [List.length_map]; exact hl, vs, _, rv, ha⟩
      · have z1 := (if_neg hb).symm.trans z
        by_cases hb2 : b ∈ cs.map (·.2)
        · have z' := (if_pos hb2).symm.trans z1
          cases z'
          exact isT b hb2
        · have z' := (if_neg hb2).symm.trans z1
          cases z'
    · by_cases hb : b = a
      · exact .inl hb
      · by_cases hb2 : b ∈ cs.map (·.2)
        · exact .inr hb2
        · exact absurd ((if_neg hb).trans (if_neg hb2)) z
theorem walkGT {l : PySem.W.OpenLaw} {n k : Nat} {q : Program} {loose : List Str} {XP : (Str → Option Value) → Heap → Prop} {YP : World → Heap → Prop} {d : DefRec} {x : Str}
    (hn : l.most = some n) (hn2 : n ≤ sizeLine) (hdf : d.params.defaults = []) (hr : Room k callerA)
    (F : ∀ (w : World) (mg : Str → Option Value) (fa : Addr) (h : Heap), YP w h → h.Ns mainGlobals mg → mg d.name = some (.ref fa) → ∃ K : PySem.W.Frag, K.In h ∧ LawAtG l w K k n x mg fa h) :
    PySem.W.WalkO q loose XP YP l.row.toRowW d [] (fun f vs => PySem.call f vs) := by
  refine Att.attach_call hn hdf fun w s₀ s₁ mg mb fa o pm cd doc a vs ns G Y ho hd hcd hmg hobj hints hlen hg => ?_
  obtain ⟨K, KX, fd, cs, sp, hT, nT, C, hb, hsp, hF⟩ := F w mg fa _ Y G.T.g hmg
  exact law_callGT KX G.T.g G.T.b G.T.builtins G.T.nolimit hg hT nT C G.T.bmain hobj hints (Nat.le_trans hlen hn2) hr hF hb fun H hH hS => hsp H a ns hlen hH hS
end TP

namespace TPE
open PySem
theorem refsXB_cases {b : XB} : ∀ l : List Value, refsXB b l = true → (∃ c r, l = .ref c :: r ∧ refsXB b r = true) ∨ l = b.tl := fun l => by
  cases l with
  | nil => exact fun e => .inr (beq_iff_eq.mp e)
  | cons v r => cases v <;> first | exact fun e => .inl ⟨_, r, rfl, e⟩ | exact fun e => .inr (beq_iff_eq.mp e)
theorem tl_pass (b : XB) (self : Value) : PySem.refuseLoop self "__setattr__" b.tl = pure () := by
  cases b <;> kernel_rfl
theorem refsXB_pass {b : XB} (self : Value) : ∀ l : List Value, refsXB b l = true → PySem.refuseLoop self "__setattr__" l = pure () := fun l => by
  induction l with
  | nil => exact fun e => by cases b <;> exact absurd e (by decide)
  | cons a r ih =>
    intro e
    rcases refsXB_cases (a :: r) e with ⟨c, r', q, h⟩ | q
    · obtain ⟨rfl, rfl⟩ := List.cons.inj q
      rw [PySem.refuseLoop_ref]; exact ih h
    · rw [q]; exact tl_pass b self
theorem refsXB_contains {b : XB} (X : String) : ∀ l : List Value, refsXB b l = true → l.contains (.type X) = b.tl.contains (.type X) := fun l => by
  induction l with
  | nil => exact fun e => by cases b <;> exact absurd e (by decide)
  | cons a r ih =>
    intro e
    rcases refsXB_cases (a :: r) e with ⟨c, r', q, h⟩ | q
    · obtain ⟨rfl, rfl⟩ := List.cons.inj q
      rw [List.contains_cons, ih h]; rfl
    · rw [q]
theorem refsXB_ne {b : XB} {l : List Value} (e : refsXB b l = true) : l.isEmpty = false := by
  cases l with
  | nil => cases b <;> exact absurd e (by decide)
  | cons _ _ => rfl
end TPE
namespace TPE
open PySem PySem.HandSPX Builtin Builtin.ObjectAttr
section
variable {prog : Program} {w : World} {A : Around} {E : Value → Shared → Prop} {R : Result → Shared → Prop} {hp : Heap} {g : Array GenState} {d : Drawn} {t : Nat} {os : OsState}
theorem exc_osaB {b : XB} {K : W.Frag} {name : Str} {tk : Tok} {v : Value} {x C : Addr} {fv : Array Value} {cd : ClassData}
    (X : K.In hp) (hx : hp.get? x = some { cls := .ref C, data := .fields fv }) (hcd : W.clsIn K C = some cd) (hm : refsXB b cd.mro = true) (hh : cd.hasDict = true) (ha : W.findIn K (.ref C) name = some none)
    (hq : ∀ h' tk' dx, (∀ b o, b ≠ x → hp.get? b = some o → h'.get? b = some o) → hp.objs.size ≤ dx → dx ≠ x → h'.get? x = some { cls := .ref C, dict := some dx, data := .fields fv } →
      h'.Ns1 dx (fun y => if y = name then some v else none) → R (.ok (.ret .none)) ⟨h', g, d, tk', os⟩) :
    codeAny (model prog w) A (.call (.builtin "object.__setattr__") ⟨[.ref x, .str name tk, v], []⟩) R ⟨hp, g, d, t, os⟩ := by
  have I : W.InstAt hp x { cls := .ref C, data := .fields fv } C none := ⟨hx, rfl, rfl, trivial⟩
  have SF := F.store_object
  have ne := refsXB_ne hm
  have hob : cd.mro.contains (.type "object") = true := (refsXB_contains "object" _ hm).trans (by cases b <;> decide +kernel)
  have hxs : x ≠ hp.objs.size := Nat.ne_of_lt (Heap.lt_size hx)
  have sub : W.Looks (model prog w) hp (isInstance (.ref x) (.type "object")) true := I.type.andThen (W.looks_mroIn X (by unfold W.mroIn; rw [hcd, Option.bind_some, if_neg (by rw [ne]; decide), hob]))
  refine codeAny_call_builtin SF.slot.plain SF.entry (@W.check_slot (model prog w) _ _ ⟨hp, g, d, t, os⟩ "object.__setattr__" "object" "__setattr__" (.ref x) [.str name tk, v] [] _ SF.kind SF.split sub (SF.args (.ref x) (.str name tk) v) ?_)
  have hmr : W.Looks (model prog w) hp (mroOf (.ref C)) cd.mro := (W.looks_clsIn X hcd).andThen .now
  have L3 : W.Looks (model prog w) hp (storeTaker? none) none := .now
  have hcls : W.Looks (model prog w) hp (classData C) cd := W.looks_clsIn X hcd
  rw [W.osa_eq, refuse_eq]
  refine wpAny_bind (wpAny_bind (I.type.at (wpAny_bind (hmr.at ?_))))
  rw [refsXB_pass _ _ hm]
  refine wpAny_pure (wpAny_bind (I.type.at (wpAny_bind ((W.looks_findIn X ha).at (wpAny_bind (L3.at ?_))))))
  show wpAny _ _ (storeInOwnDict (.ref x) (.ref C) (.str name tk) name v false) _ _ _
  obtain ⟨nm, bs, mro, ns, qn, hd, sn, sb, ab, col, del⟩ := cd
  dsimp only at hh
  subst hh
  unfold storeInOwnDict ownDictForStores
  repeat (first | with_reducible refine store_in_new ?_ ?_ | with_reducible refine wpAny_loadPart_at hx ?_ | with_reducible refine hcls.at ?_ | wp_step)
  · exact ⟨_, #[], _, (Heap.get?_update_ne _ _ _ _ hxs.symm).trans (Heap.get?_push_at rfl rfl), rfl, fun e he => absurd he (by simp), fun _ => rfl⟩
  · intro h' tk' hn' hs
    have hx₁ : (hp.push { cls := .type "dict", data := .dict #[] }).get? x = some { cls := .ref C, data := .fields fv } := Heap.get?_push_of_some _ hx
    refine hq h' tk' hp.objs.size (fun b o hb ho => ?_) (Nat.le_refl _) hxs.symm ?_ hn'
    · exact (hs.2 b (Nat.ne_of_lt (Heap.lt_size ho))).trans ((Heap.get?_update_ne _ _ _ _ hb).trans (Heap.get?_push_of_some _ ho))
    · exact (hs.2 x hxs).trans (Heap.get?_update_self _ hx₁ rfl)
end
end TPE
namespace TP
open PySem PySem.Spec PyProof.Rows L2
section
variable {X : Cx} {pins : List (Addr × Obj)} {σ : L2.St} {H : Hp} {s : Shared} {a C dx : Addr} {f : Str} {y : V} {u : Value} {fs : List (Str × V)} {Q : Unit → Shared → Prop} {E : Value → Shared → Prop} {A : Around}
/-- self.f = y, the first one -/
theorem ost_newB (T : OexB X.K C) (I : Inv X pins σ H s) (e : H a = some (exo a C none)) (hno : PySem.W.findIn X.K (.ref C) f = some none) (ry : RelV y u)
    (h : ∀ dx s', H dx = none → dx ≠ a → Inv X pins σ (upd (upd H dx (exd dx [(f, y)])) a (exo a C (some dx))) s' → Q () s') : wpAny (model X.prog X.w) A (setAttr (.ref a) f u) Q E s := by
  obtain ⟨xb, nm, q, N, bs, bm, sn, sub, ab, col, dd, k0, k1, k2, k3, k5, hC, hbm⟩ := T.cls
  have hcl : PySem.W.clsIn X.K C = some { name := nm, bases := bs, mro := .ref C :: bm, ns := N, qualname := q, hasDict := true, slotNames := sn, subclasses := sub, abstract := ab, collection := col, hasDel := false } := by unfold PySem.W.clsIn; rw [hC] <;> rfl
  obtain ⟨t1, ho⟩ := exo_at I.hok e
  obtain ⟨hp, g, d, t, os⟩ := s
  refine PySem.W.set_plain I.kIn (ox := { cls := .ref C, dict := none, data := .fields #[.ref t1, .none, .none, .none, .bool false, .none] }) (od := none) ⟨ho, rfl, rfl, trivial⟩ T.sa ?_
  refine TPE.exc_osaB I.kIn ho hcl (show TPE.refsXB xb (.ref C :: bm) = true from hbm) rfl hno (fun h' tk' dx k dn dne hx hn => ?_)
  have hnd : H dx = none := I.hok.fresh dn
  have nd : ∀ {b : Addr} {o : Obj}, hp.get? b = some o → b ≠ dx := fun {b o} q => Nat.ne_of_lt (Nat.lt_of_lt_of_le (Heap.lt_size q) dn)
  have na : ∀ {b : Addr}, H b = none → b ≠ a := fun {b} n z => by
    rw [z, e] at n
    cases n
  have Un1 : Un X.fs [] H (upd (upd H dx (exd dx [(f, y)])) a (exo a C (some dx))) hp h' := {
    keep := fun b o q n _ _ => k b o (na n) q
    slot := fun b o q n _ _ => ⟨o.slots, k b o (na n) q⟩
    free := fun b o q n _ => by rw [upd_ne (na n), upd_ne (nd q)]; exact n
    there := fun b o q _ => by
      by_cases hb : b = a
      · exact ⟨_, by rw [hb]; exact hx⟩
      · exact ⟨o, k b o hb q⟩
    tups := fun b xs q => by rw [upd_ne (at_ne e q exo_tup), upd_ne (ne_of_none q hnd)]; exact q
    frzs := fun b o v q => by rw [upd_ne (at_ne e q exo_frz), upd_ne (ne_of_none q hnd)]; exact q
    tbls := fun b ps q => ⟨#[], by rw [upd_ne (at_ne e q exo_tbl), upd_ne (ne_of_none q hnd), q]; simp⟩ }
  refine h dx _ hnd dne (I.un (t' := tk') Un1 fun b o q => ?_)
  by_cases hb : b = a
  · subst hb
    rw [upd_same] at q
    cases q
    exact exo_ok hx
  · rw [upd_ne hb] at q
    by_cases hd : b = dx
    · subst hd
      rw [upd_same] at q
      cases q
      exact exd_ok hn (relO_put (fs := []) ry fun g => True.intro)
    · rw [upd_ne hd] at q
      exact (I.hok b o q).stay (fun c v hc z => k c v (by
          rcases hc with hc | hc
          · rw [hc]
            exact hb
          · exact at_ne e hc exo_own) z)
        (fun c hc => by rw [upd_ne (at_ne e hc exo_own), upd_ne (ne_of_none hc hnd)]; exact hc) (fun c xs hc => by rw [upd_ne (at_ne e hc exo_tup), upd_ne (ne_of_none hc hnd)]; exact hc)
end
section
variable {X : Cx} {o e : Expr} {es : List Expr} {to te : TE} {ta : TA} {f : Str} {p p' p1 p2 pos : Pos}
theorem ps_ostB (ho : PE X o to) (he : PE X e te) (hs : swapsWith e (some (.Attribute o f p')) pos.line X.env = pure false := by rfl) : PS X (.Assign [.Attribute o f p'] e pos) (tOstB X.K f to te) := by
  refine ⟨fun pins s σ H D I h => ?_⟩
  refine plainObj_wpAny_Assign_Attribute (thn (he.run pins s σ H _ I h) fun v s1 ⟨y, H1, I1, r1, q1⟩ => thn (ho.run pins s1 σ H1 _ I1 q1) fun u s2 ⟨x, H2, I2, r2, a, C, ex, T, hno, q⟩ => ?_) hs
  subst ex
  obtain rfl : u = Value.ref a := r2
  obtain ⟨ea, q⟩ := q
  exact ost_newB T I2 ea hno r1 fun dx s' n ne J => ⟨σ, _, J, q dx n ne⟩
theorem pmk_oexB {CX : CXT} {x : Str} {C fI : Addr} {k : Nat} {fd : FuncData} {ps : List Str} {sp : Sp} {ds : List Value} {dvs : List V} (T : OexB X.K C) (iC : PySem.W.findIn X.K (.ref C) "__init__" = some (some (.ref fI))) (tI : PySem.W.typeIn X.K (.ref fI) = some (.type "function"))
    (F1 : FnOk X.prog X.w X.K X.mg X.base CX k fI fd ps sp) (hr : Room (k + 1) X.A) (hb : Binds X.K fd ps ds) (hd : Vals dvs ds) (hx : Passes CX X (fun _ _ _ => False)) (hg : Gl X x) (hm : X.mg x = some (.ref C)) (ha : PA X (e :: es) ta)
    (hdb : (x == ("__debug__" : Str)) = false := by decide) (he : starEach (e :: es) X.env = (false, eval e X.env) :: starEach es X.env := by rfl) (hpl : (backTo pos (starEach es X.env)).any (·.1) = false := by rfl) :
    PMk X (.Call (.Name x p) (e :: es) [] pos) (tMkO C sp dvs ta) := by
  intro pins s σ H Q I h
  obtain ⟨xb, nm, q, N, bs, bm, sn, sub, ab, col, dd, k0, k1, k2, k3, k5, hC, hbm⟩ := T.cls
  refine wpAny_Call_Name_kw (ld_glob I hg hm ?_ hdb)
  refine PySem.W.callWith_K (h₀ := X.base) I.ok.mod.kin T.kC (thn (ha.run pos pins s σ H _ I h) fun us s1 ⟨vs, H1, I1, r1, hz, q1⟩ => ⟨I1.kIn, ?_⟩) he hpl
  show wpAny _ _ (call (.ref C) us) _ _ _
  obtain ⟨hp, g, dr, tk, os⟩ := s1
  have hsz : hp.objs.size ≤ hp.objs.size + 1 := Nat.le_succ _
  have hn : H1 (hp.objs.size + 1) = none := I1.hok.fresh hsz
  have hq := q1 (hp.objs.size + 1) hn
  have kk : ∀ b o, hp.get? b = some o → ((hp.push (PySem.W.kdv_tup us)).push (PySem.HandSPX.excO C hp.objs.size)).get? b = some o := fun b o e => Heap.get?_push_of_some _ (Heap.get?_push_of_some _ e)
  have hget : ((hp.push (PySem.W.kdv_tup us)).push (PySem.HandSPX.excO C hp.objs.size)).get? (hp.objs.size + 1) = some (PySem.HandSPX.excO C hp.objs.size) := by heap_get
  have I2 : Inv X pins σ (upd H1 (hp.objs.size + 1) (exo (hp.objs.size + 1) C none)) ⟨(hp.push (PySem.W.kdv_tup us)).push (PySem.HandSPX.excO C hp.objs.size), g, dr, tk, os⟩ :=
    I1.laid (t' := tk) (a := hp.objs.size + 1) (o := exo (hp.objs.size + 1) C none) (h' := (hp.push (PySem.W.kdv_tup us)).push (PySem.HandSPX.excO C hp.objs.size)) kk hsz (exo_ok hget)
  have r2 : Vals (V.ref (hp.objs.size + 1) :: (vs ++ dvs)) (Value.ref (hp.objs.size + 1) :: (us ++ ds)) := .cons rfl (r1.append hd)
  have hl : (Value.ref (hp.objs.size + 1) :: us ++ ds).length = ps.length := by
    have e := r2.length
    rw [F1.len _ _ _ _ hq] at e
    exact e.symm
  have hus : us.length ≤ sizeLine := by
    rw [← Paired.length r1, sizeLine_eq]
    omega
  refine wpAny_call (PySem.HandSPX.call_own (TPE.base xb) (fun Y => TPE.refsXB_contains Y bm hbm) (I1.kIn _ _ hC) (PySem.W.looks_findIn I1.kIn iC) (fun self => PySem.W.bind_fn I1.kIn self tI) hus
    (codeAny_mono (F1.run _ X.stack _ _ ⟨Value.ref (hp.objs.size + 1) :: us, []⟩ (Value.ref (hp.objs.size + 1) :: (us ++ ds)) _ _ (fun _ _ _ => False) (hr.make C us []) (I2.env0.make C us []) (hb _ (Value.ref (hp.objs.size + 1) :: us) I2.kIn hl) r2 hq) fun r s' hq' => ?_))
  cases r with
  | error er => exact hx pins σ _ _ er s' I2 hq'
  | ok fl =>
    cases fl with
    | ret u =>
      obtain ⟨v, H2, os2, bare2, un2, hok2, rv, ev, d, fs, ea, ed, hd1, q2⟩ := hq'
      subst ev
      obtain ⟨h2, g2, d2, t2, os'⟩ := s'
      exact ⟨rv, mk_end (raises_own T.exC T.tyC) I1 hsz kk un2 hok2 os2 bare2 ea ed hd1 q2⟩
    | next => exact False.elim hq'
    | brk => exact False.elim hq'
    | cont => exact False.elim hq'
end
theorem oexS_ok {K : PySem.W.Frag} {C : Addr} (q : oexS K C = true) : ∃ xb nm q N bs bm sn sub ab col dd k0 k1 k2 k3 k5, K.lookup C = some (excClassObj nm q C N bs bm true sn sub ab col dd k0 k1 k2 k3 k5 (TPE.XB.nw xb)) ∧ TPE.refsXB xb bm = true := by
  unfold oexS at q
  split at q
  · rename_i dd cd sl ho
    split at q
    · rename_i C' bm k0 k1 k2 k3 n k5 hm hs
      simp only [Bool.and_eq_true, Bool.or_eq_true, beq_iff_eq, Bool.not_eq_true'] at q
      obtain ⟨rfl, hn, hdel, hdct⟩ := q
      have hxb : ∃ xb : TPE.XB, n = xb.nw ∧ TPE.refsXB xb bm = true := by
        rcases hn with h | h | h
        · exact ⟨.ve, h⟩
        · exact ⟨.le, h⟩
        · exact ⟨.ae, h⟩
      obtain ⟨xb, rfl, ht⟩ := hxb
      obtain ⟨nm, bs, mro, ns, qn, hd, sn, sub, ab, col, del⟩ := cd
      dsimp only at hm hdel hdct
      subst hm hdel hdct
      have hsl : sl = #[k0, k1, k2, k3, some (.builtin xb.nw), k5] := by
        obtain ⟨l⟩ := sl
        simp only at hs
        rw [hs]
      subst hsl
      exact ⟨xb, nm, qn, ns, bs, bm, sn, sub, ab, col, dd, k0, k1, k2, k3, k5, ho, ht⟩
    · cases q
  · cases q
theorem exkB_ok {K : PySem.W.Frag} {h : Heap} {mg : Str → Option Value} {C f : Str} (X : K.In h) (G : h.Ns mainGlobals mg) (c : exkB K C f = true) : ExcK K mg C f := by
  unfold exkB at c
  simp only [Bool.and_eq_true, decide_eq_true_eq] at c
  obtain ⟨c1, c2, c3, c4, c5, c6, c7, c8, c9, d1, d2, d3, d4, d5, d6, d7⟩ := c
  exact ⟨He.glo_ok X G c1, ⟨oexS_ok c2, He.eqO_ok c3, c4, c5, c6⟩, He.eqO_ok c7, He.eqO_ok c8, c9, ⟨He.eqO_ok d1, He.eqO_ok d2, c4, d3, He.eqO_ok d4, He.eqO_ok d5, d6, d7⟩⟩
theorem ok_ini {P : Program} {w : World} {K : PySem.W.Frag} {mg : Str → Option Value} {base : Heap} {C f s y q : Str} {st : Stmt} {p1 p2 p3 p4 : Pos} {fd : FuncData} (e : ExcK K mg C f) (F : FunD K "__init__" q (defArgs st) (defBody st) (defScope st) [] [] (He.ma K (He.ga K C) "__init__") fd)
    (S : FnScope [s, y] [s, y] (defScope st)) (hb : defBody st = [.Assign [.Attribute (.Name s p1) f p2] (.Name y p3) p4]) (vs : Vis (defScope st) s) (vy : Vis (defScope st) y) (d1 : (s == ("__debug__" : Str)) = false := by decide) (d2 : (s == ("__classdict__" : Str)) = false := by decide) (d3 : (y == ("__debug__" : Str)) = false := by decide) (d4 : (y == ("__classdict__" : Str)) = false := by decide) :
    FnOk P w K mg base CX0 2 (He.ma K (He.ga K C) "__init__") fd [s, y] (sp_ini K C f) := by
  obtain ⟨oc, od, dV, kV, doc, pm, an, cdv, ct, osl, rfl, lk, hcd, _, _⟩ := F.ex
  refine fn_of (k := 1) lk hcd S (fun vs H Q E h => ?_) fun A outer sh H vs' Q E hr h => ?_
  · obtain ⟨a, y, rfl, _⟩ := h; rfl
  · obtain ⟨a, v, rfl, ha, k⟩ := h
    rw [hb]
    refine ⟨_, pss_one (ps_ostB (pe_var (i := 0) rfl vs d1 d2) (pe_var (i := 1) rfl vy d3 d4)), ?_⟩
    exact ⟨v, rfl, .ref a, rfl, a, He.ga K C, rfl, e.oex, e.na, ha, fun dx h1 h2 => k dx h1 h2⟩
theorem w_raic {K : PySem.W.Frag} {C f : Str} {y : V} {H1 : Hp} {Q : XK} (h : ∀ d, H1 d = none → Q (.ref (He.ga K C)) (some d) (upd H1 d (.xd [(f, y)]))) : RaiC K C f [y] H1 Q := by
  refine ⟨by show 1 ≤ 1000; decide, fun a ha => ⟨a, y, rfl, upd_same, fun dx h1 h2 => ?_⟩⟩
  have hd : H1 dx = none := by rw [upd_ne h2] at h1; exact h1
  refine ⟨rfl, dx, [(f, y)], upd_same, by rw [upd_ne h2, upd_same], hd, ?_⟩
  have e : upd (del (upd (upd (upd H1 a (exo a (He.ga K C) none)) dx (exd dx [(f, y)])) a (exo a (He.ga K C) (some dx))) a) dx (.xd [(f, y)]) = upd H1 dx (.xd [(f, y)]) := by
    funext b
    by_cases e1 : b = dx
    · subst e1; rw [upd_same, upd_same]
    · rw [upd_ne e1, upd_ne e1]
      by_cases e2 : b = a
      · subst e2; rw [del_same, ha]
      · rw [del_ne e2, upd_ne e2, upd_ne e1, upd_ne e2]
  rw [e]
  exact h dx hd
theorem hasX_of {P : Program} {w : World} {K : PySem.W.Frag} {mg : Str → Option Value} {base : Heap} {C f s y q : Str} {st : Stmt} {p1 p2 p3 p4 : Pos} (e : ExcK K mg C f) (F : ∃ fd, FunD K "__init__" q (defArgs st) (defBody st) (defScope st) [] [] (He.ma K (He.ga K C) "__init__") fd)
    (S : FnScope [s, y] [s, y] (defScope st)) (hb : defBody st = [.Assign [.Attribute (.Name s p1) f p2] (.Name y p3) p4]) (vs : Vis (defScope st) s) (vy : Vis (defScope st) y)
    (bn : ∀ (kV doc pm : Value) (an : Option Addr) (cdv ct : Value) (us : List Value), us.length = 2 → bindArgs (PySem.W.fnOf "__init__" q (defArgs st) (defBody st) (defScope st) .none kV doc pm an cdv ct) ⟨us, []⟩ = pure ([s, y].zip us))
    (d1 : (s == ("__debug__" : Str)) = false := by decide) (d2 : (s == ("__classdict__" : Str)) = false := by decide) (d3 : (y == ("__debug__" : Str)) = false := by decide) (d4 : (y == ("__classdict__" : Str)) = false := by decide) : HasX P w K mg base C f := by
  obtain ⟨fd, F⟩ := F
  obtain ⟨kV, doc, pm, an, cdv, ct, efd⟩ := FunD.noDef F
  refine ⟨e, fd, [s, y], ok_ini e F S hb vs vy d1 d2 d3 d4, Binds.all fun us hl => ?_⟩
  rw [efd]
  exact bn kV doc pm an cdv ct us hl
theorem ps_rai {X : Cx} {W : WX} (K : PySem.W.Frag) {C f : Str} {p pos pos' : Pos} {e : Expr} {te : TE} (h : HasX X.prog X.w K X.mg X.base C f) (hc : X.calm = true) (tk : Takes X W) (hr : Room 3 X.A) (hg : Gl X C) (he : PE X e te) (hK : X.K = K := by rfl)
    (hdb : (C == ("__debug__" : Str)) = false := by decide) (hse : starEach [e] X.env = (false, eval e X.env) :: starEach [] X.env := by rfl) (hpl : (backTo pos (starEach [] X.env)).any (·.1) = false := by rfl) :
    PS X (.Raise (some (.Call (.Name C p) [e] [] pos)) none pos') (tRai K C f W te) := by
  subst hK
  obtain ⟨fd, ps, O, B⟩ := h.ex
  exact ps_raise hc tk (pmk_oexB (dvs := []) (ds := []) h.k.oex h.k.ini h.k.fin O hr B .nil pass0 hg h.k.glo (pa_cons he pa_nil hse) hdb hse hpl)
theorem w_rai {K : PySem.W.Frag} {C f : Str} {W : WX} {te : TE} {D : Ends} {σ : L2.St} {H : Hp} (h : te σ H fun y H1 => RaiC K C f [y] H1 fun cls d H' => W cls d σ H') : tRai K C f W te D σ H := h
theorem takesE {P : Program} {w : World} {K : PySem.W.Frag} {mg : Str → Option Value} {base : Heap} {N : List Str} {q : Str} {sc : Scope} {f : Addr} {cd : Value} {A : Around} {outer : List Env} {s : Shared} {H : Hp} {E : XK} :
    Takes (cxOf (L2.CX P w) P w K mg base N q sc f cd A outer s H E) (fun cls d _ H' => E cls d H') := takes_of rfl rfl rfl rfl
theorem passE {X : Cx} {E : XK} (tk : Takes X (fun cls d _ H' => E cls d H')) : Passes (L2.CX X.prog X.w) X E := passes_call tk fun _ _ _ _ h => h
end TP

namespace TP
open PySem PySem.Spec PyProof.Rows L2 LamX
theorem caught_gives {X : Cx} {k1 k2 : Nat} {x q : Str} {sg : Scope} {g : Addr} {cdg : Value} {stk stf : Stmt} {kk j : Nat} {p1 p2 p3 p4 p5 q1 q2 q3 q4 q5 q6 q7 q8 r1 r2 r3 r4 r5 r6 r7 : Pos}
    (hr : Room (k1 + k2 + 1) X.A) (hg : X.A.guards = some []) (hk : HasP X.prog X.w X.K X.mg X.base k1 "_law_kind" stk ["_law_e"] (spKind X.K)) (hf : HasP X.prog X.w X.K X.mg X.base k2 "_law_fields" stf ["_law_e"] (spFields X.K)) (pbk : PosB "_law_kind" stk ["_law_e"]) (pbf : PosB "_law_fields" stf ["_law_e"])
    (n1 : X.mg "TallyError" = some (.ref (He.ga X.K "TallyError"))) (n2 : X.mg "StateError" = some (.ref (He.ga X.K "StateError"))) (n3 : X.mg "SizeError" = some (.ref (He.ga X.K "SizeError")))
    (hx : ∀ e ∈ exTab, PySem.W.exmAny X.K (.ref (He.ga X.K e.1)) [.ref (He.ga X.K "TallyError"), .ref (He.ga X.K "StateError"), .ref (He.ga X.K "SizeError")] = some true)
    (g1 : sg.names.lookup ("TallyError" : Str) = some .globalImplicit) (g2 : sg.names.lookup ("StateError" : Str) = some .globalImplicit) (g3 : sg.names.lookup ("SizeError" : Str) = some .globalImplicit) (g4 : sg.names.lookup ("_law_kind" : Str) = some .globalImplicit) (g5 : sg.names.lookup ("_law_fields" : Str) = some .globalImplicit) (g6 : sg.names.lookup ("_law_e" : Str) = some .local) :
    GivesTo X ["_law_call", "_law_e"] x sg g cdg [.Try [.Return (some (.List [.Constant (.str "returned") j p1, .Call (.Name "_law_call" p2) [] [] p3] p4)) p5]
      [.ExceptHandler (some (.Tuple [.Name "TallyError" q1, .Name "StateError" q2, .Name "SizeError" q3] kk q4)) (some "_law_e") [.Return (some (.BinOp (.List [.Call (.Name "_law_kind" r1) [.Name "_law_e" r2] [] r3] r4) .Add (.Call (.Name "_law_fields" r5) [.Name "_law_e" r6] [] r7) q5)) q6] q7] [] [] q8] "_law_call" q (TCaught X.K) := by
  intro f c' s H Q tl act hc h
  have hN : (["_law_call", "_law_e"] : List Str).Nodup := by decide +kernel
  have rmH : ∀ (k : Nat), k ≤ k1 + k2 → ∀ {h : Option Value}, RoomH k ((X.A.deeper (envOfC x sg s.heap.objs.size g cdg)).mark h) := fun k hk h => L2H.RoomH.mono (j := k) (k := k1 + k2) ⟨(hr.deeper (envOfC x sg s.heap.objs.size g cdg)).dp, (hr.deeper (envOfC x sg s.heap.objs.size g cdg)).un⟩ hk
  refine ⟨_, pss_one (ps_try_as3 (X := (cxOf C8.CX0 X.prog X.w X.K X.mg X.base ["_law_call", "_law_e"] x sg g cdg X.A X.stack s H C8.E0).nox) (i := 1) (c1 := .ref (He.ga X.K "TallyError")) (c2 := .ref (He.ga X.K "StateError")) (c3 := .ref (He.ga X.K "SizeError"))
      (tb := fun W D σ H => ∃ Ech : XK, (∀ cls d σ' H', Ech cls d H' → W cls d σ' H') ∧ σ[0]? = some (some (.ref f)) ∧ H c' = some (CodeO c' q) ∧ tl Ech H fun v H1 => LstC [.str "returned", v] H1 D.rt)
      (ts := fun a cls d D σ H => ∀ oe, Zc cls d oe → (∃ vs, oe.data = .fields vs) → σ.length = 2 → tKF X.K (a, oe) D σ H)
      rfl rfl hN rfl g6 ⟨g1, by decide, .inl n1⟩ ⟨g2, by decide, .inl n2⟩ ⟨g3, by decide, .inl n3⟩ L2.takes0 (fun W pn xe tk _ => ?_) (fun a oe cls d pn hz hfl => ?_)), ?_⟩
  · refine ⟨fun pins s' σ H' D I h' => ?_⟩
    obtain ⟨Ech, hW, h1, h2, h3⟩ := h'
    have hp := act W pn xe Ech p2 p3 tk hW
    exact (pss_one (ps_ret (pos := p5) (pe_lst (pos := p4) (pa_cons (pe_str (x := "returned") (j := j) (pos := p1)) (pa_cons hp pa_nil))))).run pins s' σ H' D I ⟨h1, h2, h3⟩
  · refine ⟨fun pins s' σ H' D I h' => ?_⟩
    refine PSs.run (t := tKF X.K (a, oe)) ?_ pins s' σ H' D I (h' oe hz hfl I.len)
    refine pss_one (ps_ret (pe_op op_cat (pe_lst (pa_cons (pe_fnP (p := (a, oe)) hk pbk List.mem_cons_self ?_ hg g4 (pa_cons (pe_var (i := 1) rfl (.inl g6)) pa_nil)) pa_nil)) (pe_fnP (p := (a, oe)) hf pbf List.mem_cons_self ?_ hg g5 (pa_cons (pe_var (i := 1) rfl (.inl g6)) pa_nil))))
    · exact rmH k1 (by omega)
    · exact rmH k2 (by omega)
  · refine ⟨fun cls d H' => CaughtC X.K cls d H' Q, fun cls d σ' H' hcc => ?_, rfl, hc, h⟩
    obtain ⟨e, y, dd, he, rfl, rfl, hdd, kq⟩ := hcc
    refine ⟨true, hx e he, fun _ a ha oe hz hfl hl => ?_, nofun⟩
    have hget : (σ'.set 1 (some (.ref a)))[1]? = some (some (.ref a)) := by
      rw [List.length_set] at hl
      rw [List.getElem?_set_self (by omega)]
    refine ⟨.ref a, hget, e, y, dd, rfl, he, ⟨hz, hfl, hdd⟩, fun H1 s1 => ?_⟩
    refine ⟨by show 1 ≤ sizeLine; rw [sizeLine_eq]; decide, fun l hl1 => ?_⟩
    have s2 := same_step (u := .lst [.str e.2.2]) s1 hl1
    refine ⟨.ref a, hget, e, y, dd, rfl, he, ⟨hz, hfl, s2 _ _ hdd⟩, fun l2 H3 s3 hl2 => ?_⟩
    refine ⟨l, l2, [.str e.2.2], [y], rfl, rfl, s3 _ _ upd_same, hl2, by show 2 ≤ sizeLine; rw [sizeLine_eq]; decide, fun p hp => ?_⟩
    exact kq p _ (same_step (s2.trans s3) hp) upd_same
end TP

namespace TP
open PySem PySem.Spec PyProof.Rows L2
theorem ExcC.xfo {K : PySem.W.Frag} {D : Addr} (h : ExcC K D) : XfC K D := ⟨h.hg, h.hk, h.hs, h.hd⟩
theorem exhB_ok {K : PySem.W.Frag} {C : Str} (c : exhB K C = true) : ExcC K (He.ga K C) := by
  unfold exhB at c
  simp only [Bool.and_eq_true, decide_eq_true_eq] at c
  obtain ⟨c4, d1, d2, d3, d4, d5, d6, d7⟩ := c
  exact ⟨He.eqO_ok d1, He.eqO_ok d2, c4, d3, He.eqO_ok d4, He.eqO_ok d5, d6, d7⟩
theorem exfB_ok {K : PySem.W.Frag} {h : Heap} {mg : Str → Option Value} (X : K.In h) (G : h.Ns mainGlobals mg) (c : exfB K = true) : ExF K mg := by
  obtain ⟨c1, c⟩ := Bool.and_eq_true_iff.mp c
  obtain ⟨c2, c⟩ := Bool.and_eq_true_iff.mp c
  obtain ⟨c3, c⟩ := Bool.and_eq_true_iff.mp c
  obtain ⟨c4, c⟩ := Bool.and_eq_true_iff.mp c
  obtain ⟨c5, c⟩ := Bool.and_eq_true_iff.mp c
  obtain ⟨c6, c⟩ := Bool.and_eq_true_iff.mp c
  obtain ⟨c7, c⟩ := Bool.and_eq_true_iff.mp c
  obtain ⟨c8, c9⟩ := Bool.and_eq_true_iff.mp c
  refine ⟨fun e he => exhB_ok (List.all_eq_true.mp c1 e he), fun C hC => He.glo_ok X G (List.all_eq_true.mp c2 C hC), fun e he C hC => of_decide_eq_true (List.all_eq_true.mp (List.all_eq_true.mp c3 e he) C hC), fun e he => ?_,
    fun e he f hf => He.eqO_ok (List.all_eq_true.mp (List.all_eq_true.mp c5 e he) f hf), fun e he => of_decide_eq_true (List.all_eq_true.mp c6 e he), He.free_ok X G c7, He.free_ok X G c8, He.free_ok X G c9⟩
  obtain ⟨a, b⟩ := Bool.and_eq_true_iff.mp (List.all_eq_true.mp c4 e he)
  obtain ⟨b, d⟩ := Bool.and_eq_true_iff.mp b
  exact ⟨of_decide_eq_true a, of_decide_eq_true b, of_decide_eq_true d⟩
section
variable {K : PySem.W.Frag} {mg : Str → Option Value} {H : Hp} {Q : VK} {p : Addr × Obj} {e : ExE} {y : V} {dd : Addr}
theorem w_isP (F : ExF K mg) (he : e ∈ exTab) (h : HeldS K p H e y dd) {C : Str} (hC : C ∈ exLeaf ++ exBase) (q : Q (.bl (exIs e C)) H) : rIsP K p.1 (He.ga K e.1) dd [.ref p.1, .ref (He.ga K C)] H Q := ⟨_, _, _, _, rfl, .own _, h.2.2, F.kit e he C hC, q⟩
theorem w_isPb (F : ExF K mg) (he : e ∈ exTab) (h : HeldS K p H e y dd) {T : String} {b : Bool} (hT : PySem.W.kitOne K (.ref (He.ga K e.1)) (.type T) = some b) (q : Q (.bl b) H) : rIsP K p.1 (He.ga K e.1) dd [.ref p.1, .ty T] H Q := ⟨_, _, _, _, rfl, .ty T, h.2.2, hT, q⟩
theorem kitAny_of (F : ExF K mg) (he : e ∈ exTab) : ∀ {cs : List Str}, (∀ C ∈ cs, C ∈ exLeaf ++ exBase) → PySem.W.kitAny K (.ref (He.ga K e.1)) (cs.map fun C => Value.ref (He.ga K C)) = some (cs.any (exIs e))
  | [], _ => kitAny_nil
  | C :: cs, h => by
    have i := kitAny_of F he (cs := cs) fun D hD => h D (List.mem_cons_of_mem _ hD)
    refine kitAny_cons (F.kit e he C (h C List.mem_cons_self)) (fun hb => ?_) fun hb => ?_
    · rw [i, List.any_cons, hb, Bool.false_or]
    · rw [List.any_cons, hb, Bool.true_or]
theorem cls_pairs (K : PySem.W.Frag) : ∀ cs : List Str, Paired ClsV (cs.map fun C => V.ref (He.ga K C)) (cs.map fun C => Value.ref (He.ga K C))
  | [] => .nil
  | _ :: cs => .cons (.own _) (cls_pairs K cs)
theorem w_isPT (F : ExF K mg) (he : e ∈ exTab) (h : HeldS K p H e y dd) {tp : Addr} {cs : List Str} (hT : H tp = some (.tup (cs.map fun C => V.ref (He.ga K C)))) (hC : ∀ C ∈ cs, C ∈ exLeaf ++ exBase) (q : Q (.bl (cs.any (exIs e))) H) : rIsPT K p.1 (He.ga K e.1) dd [.ref p.1, .ref tp] H Q :=
  ⟨tp, _, _, _, _, rfl, hT, cls_pairs K cs, h.2.2, kitAny_of F he hC, q⟩
theorem held_same {H' : Hp} (s : Same H H') (h : HeldS K p H e y dd) : HeldS K p H' e y dd := ⟨h.1, h.2.1, s _ _ h.2.2⟩
end
theorem boot_LookupError : bootBuiltins "LookupError" = some (.type "LookupError") := by decide +kernel
theorem boot_ArithmeticError : bootBuiltins "ArithmeticError" = some (.type "ArithmeticError") := by decide +kernel
theorem u66H {k : Nat} {A : Around} (r : RoomH k A) : A.units + 66 < cLine := by have := r.un; omega
theorem k_isP {X : Cx} {p : Addr × Obj} {D dd : Addr} (K : PySem.W.Frag) (C : ExcC K D) (hh : Held X p D dd) (h : X.K = K := by rfl) : CallR X (.builtin "isinstance") (rIsP K p.1 D dd) := by subst h; exact call_isP C hh
theorem k_isPT {X : Cx} {p : Addr × Obj} {D dd : Addr} (K : PySem.W.Frag) (C : ExcC K D) (hh : Held X p D dd) (h : X.K = K := by rfl) : CallR X (.builtin "isinstance") (rIsPT K p.1 D dd) := by subst h; exact call_isPT C hh
theorem k_xp {X : Cx} {p : Addr × Obj} {D dd : Addr} {e : Expr} {te : TE} {pos : Pos} {n : Str} (K : PySem.W.Frag) (T : XfC K D) (hno : PySem.W.findIn K (.ref D) n = some none) (hh : Held X p D dd) (he : PE X e te) (h : X.K = K := by rfl) (hb : attributeBase e n X.env (eval e X.env) = eval e X.env := by rfl) :
    PE X (.Attribute e n pos) (tXp p.1 dd n te) := by subst h; exact pe_xp T hno hh he hb
theorem boot_ValueError : bootBuiltins "ValueError" = some (.type "ValueError") := by decide +kernel
theorem ex_fld : ∀ e ∈ exTab, ∀ c ∈ exTab, exIs e c.1 = true → e.2.1 = c.2.1 := by decide +kernel
theorem lk_self (f : Str) (y : V) : ([(f, y)] : List (Str × V)).lookup f = some y := by simp [List.lookup]
theorem ex_oth : ∀ e ∈ exTab, exOth.contains e.1 = true → exIs e "InvalidName" = false → exIs e "InvalidTimes" = false → exIs e "InvalidText" = false → exIs e "InvalidNumber" = false → exIs e "InvalidSlots" = false → exIs e "InvalidSize" = false → exIs e "InvalidLine" = true := by decide +kernel
theorem ex_first : ∀ e ∈ exTab, (["InvalidCounts", "InvalidSummary", "InvalidOrder", "InvalidPlan"] : List Str).any (exIs e) = true → e.2.1 = "index" := by decide +kernel
theorem ex_second : ∀ e ∈ exTab, (["InvalidIndex", "InvalidAction"] : List Str).any (exIs e) = true → e.2.1 = "index" := by decide +kernel
theorem ex_cap : ∀ e ∈ exTab, (["InvalidCapacity", "CapacitiesDiffer"] : List Str).any (exIs e) = true → e.2.1 = "capacity" := by decide +kernel
theorem ex_many : ∀ e ∈ exTab, (["TooManyNames", "TooManyActions"] : List Str).any (exIs e) = true → e.2.1 = "found" := by decide +kernel
theorem ex_rest : ∀ e ∈ exTab, (["InvalidCounts", "InvalidSummary", "InvalidOrder", "InvalidPlan"] : List Str).any (exIs e) = false → (["InvalidIndex", "InvalidAction"] : List Str).any (exIs e) = false → exIs e "NotASummary" = false → (["InvalidCapacity", "CapacitiesDiffer"] : List Str).any (exIs e) = false → (["TooManyNames", "TooManyActions"] : List Str).any (exIs e) = false → exOth.contains e.1 = true := by decide +kernel
theorem w_xp {a dd : Addr} {f : Str} {te : TE} {σ : L2.St} {H : Hp} {Q : VK} (h : te σ H fun x H1 => x = .ref a ∧ ∃ (fs : List (Str × V)) (v : V), H1 dd = some (.xd fs) ∧ fs.lookup f = some v ∧ Q v H1) : tXp a dd f te σ H Q := h
end TP



namespace TP
open PySem PySem.Spec PyProof.Rows L2
/-! ### list.count of flat items -/
def rCntF (K : PySem.W.Frag) : V → List V → Hp → VK → Prop := fun x xs H Q => ∃ (a : Addr) (ys : List V) (y : V), x = .ref a ∧ xs = [y] ∧ SqL K H a ys ∧ flatV y = true ∧ ys.all flatV = true ∧ Q (.int (ys.countP (fun z => eqV z y) : Nat)) H
theorem eqU_count {y : V} : ∀ {ys : List V} {us : List Value}, Vals ys us → ys.all flatV = true → us.countP (eqU y) = ys.countP fun z => eqV z y
  | _, _, .nil, _ => rfl
  | z :: ys, u :: us, .cons r rs, h => by
    rw [List.all_cons, Bool.and_eq_true] at h
    rw [List.countP_cons, List.countP_cons, eqU_count rs h.2, eqU_of r h.1]
theorem mt_countF {X : Cx} : MtR X "list.count" (rCntF X.K) := by
  intro pins s σ H x xs v us Q I rx rxs h
  obtain ⟨a, ys, y, rfl, rfl, hs, fy, fys, q⟩ := h
  cases rx
  cases rxs with
  | cons ry rt =>
    rename_i uy ut
    cases rt
    obtain ⟨its, rv, ⟨⟨cls, dd, data, sl⟩, n, ho, hc, hdn, hd⟩, hlen⟩ := I.list hs
    simp only at hc hd
    subst hc hd
    refine call_meets PySem.F.slot_list_count ⟨_, ho, rfl⟩ PySem.F.entry_list_count (PySem.F.args_list_count_2 _ _)
      (SeqAt.list_countAt a its.toArray n dd sl uy (eqU y)) ⟨ho, fun u' hu' => mem_eqAt ry fy rv fys u' (by simpa using hu'), ?_⟩
    have ec : its.toArray.toList.countP (eqU y) = ys.countP fun z => eqV z y := by
      rw [List.toList_toArray]; exact eqU_count rv fys
    refine ⟨.int (ys.countP (fun z => eqV z y) : Nat), H, I.tok _, ⟨s.toks, ?_⟩, q⟩
    show Value.int ((its.toArray.toList.countP (eqU y) : Nat) : Int) s.toks = _
    rw [ec]
theorem k_countF {X : Cx} (K : PySem.W.Frag) (h : X.K = K := by rfl) : MtR X "list.count" (rCntF K) := by subst h; exact mt_countF
theorem k_index {X : Cx} (K : PySem.W.Frag) (h : X.K = K := by rfl) : MtR X "list.index" (rIndex K) := by subst h; exact mt_index
theorem w_catG {H : Hp} {Q : VK} {l b : Addr} {xs zs : List V} (h1 : H l = some (.lst xs)) (h2 : H b = some (.lst zs)) (hz : xs.length + zs.length ≤ sizeLine) (h : ∀ p G, Same H G → G p = some (.lst (xs ++ zs)) → Q (.ref p) G) : rCat (.ref l) (.ref b) H Q := w_cat h1 h2 hz fun p hp => h p _ (same_new hp) upd_same
theorem w_allocLG {H : Hp} {Q : VK} {xs : List V} (hz : xs.length.ble 100000 = true) (h : ∀ p G, Same H G → G p = some (.lst xs) → Q (.ref p) G) : AllocL xs H Q := w_allocL hz fun p hp => h p _ (same_new hp) upd_same
/-! ### the kinds of the own errors -/
def exAt (e : ExE) : Nat := exLeaf.findIdx (exIs e)
def exBls (e : ExE) : List V := exLeaf.map fun C => V.bl (exIs e C)
theorem ex_cnt : ∀ e ∈ exTab, (exBls e).countP (fun z => eqV z (.bl true)) = 1 := by decide +kernel
theorem ex_flat (e : ExE) : (exBls e).all flatV = true := by
  unfold exBls
  rw [List.all_map]
  exact List.all_eq_true.mpr fun C _ => rfl
theorem ex_hit : ∀ e ∈ exTab, exAt e < 20 ∧ (exLeaf.map (exIs e))[exAt e]? = some true := by decide +kernel
theorem ex_miss : ∀ e ∈ exTab, ((exLeaf.map (exIs e)).take (exAt e)).all (fun b => !b) = true := by decide +kernel
def exWords : Str := "capacity name times counts summary order plan text size number slots index action line notsummary differ busy undo names actions"
theorem ex_word : ∀ e ∈ exTab, (Txt.split exWords " ")[exAt e]? = some e.2.2 := by decide +kernel
theorem ex_bases : ∀ e ∈ exTab, exIs e "TallyError" = decide (((exAt e : Nat) : Int) < 15) ∧ exIs e "StateError" = (decide (14 < ((exAt e : Nat) : Int)) && decide (((exAt e : Nat) : Int) < 18)) ∧ exIs e "SizeError" = decide (17 < ((exAt e : Nat) : Int)) := by decide +kernel
end TP

namespace TP
open PySem PySem.Spec PyProof.Rows L2 LamX
/-! ### all but the code tables stay -/
theorem Same.x {H H' : Hp} (s : Same H H') : ExtN H H' := ExtN.of s
theorem sql_x {K : PySem.W.Frag} {H H' : Hp} {a : Addr} {xs : List V} (s : ExtN H H') (h : SqL K H a xs) : SqL K H' a xs := by
  rcases h with (h | ⟨o, h⟩) | h
  · exact .inl (.inl (s _ _ h nofun))
  · exact .inl (.inr ⟨o, s _ _ h nofun⟩)
  · exact .inr h
theorem sqt_x {K : PySem.W.Frag} {H H' : Hp} {a : Addr} {xs : List V} (s : ExtN H H') (h : SqT K H a xs) : SqT K H' a xs := by
  rcases h with (h | ⟨o, h⟩) | h
  · exact .inl (.inl (s _ _ h nofun))
  · exact .inl (.inr ⟨o, s _ _ h nofun⟩)
  · exact .inr h
mutual
theorem dp_x {K : PySem.W.Frag} {H H' : Hp} (s : ExtN H H') : ∀ {v : V} {d : PyData}, Dp K H v d → Dp K H' v d
  | _, _, .non => .non
  | _, _, .bl b => .bl b
  | _, _, .int i => .int i
  | _, _, .str x => .str x
  | _, _, .lst h r => .lst (sql_x s h) (dps_x s r)
  | _, _, .tup h r => .tup (sqt_x s h) (dps_x s r)
theorem dps_x {K : PySem.W.Frag} {H H' : Hp} (s : ExtN H H') : ∀ {vs : List V} {ds : List PyData}, DpAll K H vs ds → DpAll K H' vs ds
  | _, _, .nil => .nil
  | _, _, .cons h r => .cons (dp_x s h) (dps_x s r)
end
theorem sum_x {K : PySem.W.Frag} {H H' : Hp} {v : V} {c : Int} {ps : Bag} (s : ExtN H H') (h : SumO K H v c ps) : SumO K H' v c ps := by
  obtain ⟨a, dx, b, rfl, h1, h2⟩ := h
  exact ⟨a, dx, b, rfl, s _ _ h1 nofun, dp_x s h2⟩
theorem lst_x {H H' : Hp} {a : Addr} {xs : List V} (s : ExtN H H') (h : H a = some (.lst xs)) : H' a = some (.lst xs) := s _ _ h nofun
theorem dk_x {H H' : Hp} {a : Addr} {kvs : List (Key × V)} (s : ExtN H H') (h : H a = some (.dK kvs)) : H' a = some (.dK kvs) := s _ _ h nofun
theorem pool_x {H H' : Hp} {p : Addr} (s : ExtN H H') (h : H p = some (poolO p)) : H' p = some (poolO p) := s _ _ h fun ps z => by unfold poolO at z; cases z
theorem tabs_upd {T : List (Addr × Str)} {H : Hp} {D : Addr} {xs ys : List V} (t : Tabs T H) (hD : H D = some (.lst xs)) : Tabs T (upd H D (.lst ys)) := fun p hp => by
  obtain ⟨ps, h1, h2, h3⟩ := t p hp
  refine ⟨ps, ?_, h2, fun pos cv hc => ?_⟩
  · rw [upd_ne (fun z => by rw [z, hD] at h1; cases h1)]; exact h1
  · obtain ⟨c, e1, e2⟩ := h3 pos cv hc
    exact ⟨c, e1, by rw [upd_ne (fun z => by rw [z, hD] at e2; cases e2)]; exact e2⟩
theorem x_mut {H H' : Hp} {D : Addr} {o : HO} (s : ExtN H H') (hD : H D = none) : ExtN H (upd H' D o) := fun b u e n => by
  rw [upd_ne (fun z => by rw [z, hD] at e; cases e)]; exact s b u e n
section
variable {J : It} {n : Nat} {G : Hp → Prop} {Y : Nat → Hp → V → Hp → Prop} {g : TG} {te : TE} {vs : List Nat} {σ : L2.St} {H1 : Hp} {D : Addr} {Q : VK}
/-- as lc_map, where lambdas are made -/
theorem lc_mapX (w : Walk J n G Y) (T : List (Addr × Str)) (hn : n ≤ 100000) (f : Nat → V → Prop) (hD : H1 D = none) (hT : Tabs T H1) (hG : ∀ H, ExtN H1 H → G H)
    (hs : ∀ i x H H', i < n → ExtN H1 H → Tabs T H → Y i H x H' → ∀ Qy : VK, (∀ y H4, ExtN H H4 → Tabs T H4 → f i y → Qy y H4) → g x (wipe σ vs) H' fun σ2 H2 => wipe σ2 vs = wipe σ vs ∧ te σ2 H2 Qy)
    (hd : ∀ acc H, ExtN H1 H → Tabs T H → H D = some (.lst acc) → acc.length = n → (∀ i y, acc[i]? = some y → f i y) → Q (.ref D) H)
    (mono : ∀ {x σ H} {Q Q' : L2.St → Hp → Prop}, (∀ σ H, Q σ H → Q' σ H) → g x σ H Q → g x σ H Q') : LcOk J g tYes te vs σ H1 D Q := by
  refine lc_it w (fun i H => ∃ acc, ExtN H1 H ∧ Tabs T H ∧ H D = some (.lst acc) ∧ acc.length = i ∧ ∀ (j : Nat) (y : V), acc[j]? = some y → f j y) ⟨[], Same.x (same_new hD), hT.ext (same_new hD), upd_same, rfl, fun j y e => by simp at e⟩ (fun i H _ ⟨_, s, _⟩ => hG H s) (fun i x H H' hi ⟨acc, s, t, e, l, a⟩ hy => ?_) fun H ⟨acc, s, t, e, l, a⟩ => hd acc H s t e l a
  refine mono (fun σ2 H2 q => ⟨q.1, w_yes (w_iteT q.2)⟩) (hs i x H H' hi s t hy _ fun y H4 s4 t4 fy => ?_)
  have e4 := lst_x s4 e
  refine ⟨acc, e4, sz_lt (by omega), acc ++ [y], x_mut (s.trans s4) hD, tabs_upd t4 e4, upd_same, by simp [l], fun j z ej => ?_⟩
  by_cases q : j < acc.length
  · rw [List.getElem?_append_left q] at ej; exact a j z ej
  · rw [List.getElem?_append_right (Nat.le_of_not_lt q)] at ej
    have q2 : j = acc.length := by
      obtain ⟨h1, _⟩ := List.getElem?_eq_some_iff.mp ej
      simp at h1; omega
    subst q2
    simp at ej
    subst ej
    rw [l]; exact fy
end
end TP

/-! a lambda handed to the def that calls it and tells what was raised (turned from HandS.Lambda: no repr is under way) -/
namespace TP
open PySem PySem.Spec PyProof.Rows L2 LamX
section
variable {X : Cx} {pins : List (Addr × Obj)} {σ : L2.St} {H HZ : Hp} {s s1 : Shared}
/-- x(), in the def that got the lambda: Z is that def's context, entered at s -/
theorem pe_actG {CXg : CXT} {Eg : XK} {Ng : List Str} {qg : Str} {sg : Scope} {g f c' : Addr} {cdg pm ctv : Value} {params : Arguments} {body : Expr} {scope : Scope} {k i : Nat} {a : Str} {pn : List (Addr × Obj)} {xe : Value → Shared → Prop} {W : WX} {E : XK} {tb : TE} {p1 p2 : Pos}
    (I : Inv X pins σ H s) (L : LamS X.env.scope scope) (hf : s.heap.get? f = some (PySem.W.kla_obj "<lambda>" (X.env.qual ++ "<lambda>") params body scope (cloFrom X.env.cells scope.names []) pm c' ctv)) (hfn : H f = none) (hfr : f ∉ frs X.stack)
    (hbind : bindArgs (PySem.W.kla_fn "<lambda>" (X.env.qual ++ "<lambda>") params body scope (cloFrom X.env.cells scope.names []) pm (.ref c') ctv) ⟨[], []⟩ = pure [])
    (tk : Takes ((cxOf CXg X.prog X.w X.K X.mg X.base Ng qg sg g cdg X.A X.stack s H Eg).tr pn xe) W) (hW : ∀ cls d σ' H', E cls d H' → W cls d σ' H') (hgX : X.A.guards = some []) (hr : Room (k + 1) (X.A.deeper (envOfC qg sg s.heap.objs.size g cdg)))
    (hbody : ∀ (A : Around) (outer : List Env) (s : Shared) (H : Hp), A.guards = some [] → Room k (A.deeper (lamEnv X scope s.heap.objs.size f c')) → PE (lamCx X A outer s H E scope f c') body tb)
    (hN : Ng[i]? = some a) (hv : Vis sg a) (hd : (a == ("__debug__" : Str)) = false := by decide) (hcd : (a == ("__classdict__" : Str)) = false := by decide) :
    PE ((cxOf CXg X.prog X.w X.K X.mg X.base Ng qg sg g cdg X.A X.stack s H Eg).tr pn xe) (.Call (.Name a p1) [] [] p2)
      (fun σZ HZ Q => σZ[i]? = some (some (.ref f)) ∧ HZ c' = some (CodeO c' (X.env.qual ++ "<lambda>")) ∧ tb σ HZ Q) := by
  refine ⟨fun pinsZ sZ σZ HZ Q IZ h => ?_⟩
  obtain ⟨hs, hc, ht⟩ := h
  refine wpAny_Call_Name_kw (thn ((pe_var (pos := p1) (i := i) hN hv hd hcd).run pinsZ sZ σZ HZ (fun v H1 => v = .ref f ∧ H1 = HZ) IZ ⟨.ref f, hs, rfl, rfl⟩) fun u s1 ⟨v, H1, I1, r1, q1⟩ => ?_)
  obtain ⟨ev, eH⟩ := q1
  subst ev
  rw [eH] at I1
  obtain rfl : u = Value.ref f := r1
  have of1 : s1.heap.get? f = some (PySem.W.kla_obj "<lambda>" (X.env.qual ++ "<lambda>") params body scope (cloFrom X.env.cells scope.names []) pm c' ctv) := I1.base.keep f _ hf hfn hfr (fun z => nomatch (show f ∈ ([] : List Addr) from z))
  refine PySem.W.callWith_F0 ⟨_, _, _, _, of1⟩ ?_
  have un : Un (frs X.stack) [] H HZ s.heap s1.heap := I1.base
  obtain ⟨⟨oc, vs, t, hoc, hdc, hvc⟩, _, _⟩ := I1.hok c' _ hc
  have rc : codeAny (model X.prog X.w) (X.A.deeper (envOfC qg sg s.heap.objs.size g cdg)) (.call (.ref f) ⟨[], []⟩) (CR (L2.CX X.prog X.w) (envOfC qg sg s.heap.objs.size g cdg :: X.stack) X.prog X.w HZ s1 Q E) s1 := by
    refine PySem.W.kla_callFunE hr.depth of1 rfl L.co L.gen rfl ⟨c', oc, vs, t, rfl, hoc, hdc, hvc⟩ ?_
    rw [hbind]
    refine wpAny_pure (wpAny_newFunctionEnv (fun y hy => (L.own y hy).2) (fun y hy => absurd hy (by simp)) (fun h₁ hns hsb => ⟨I1.nolimit.fresh _ hsb, ?_⟩) L.kind)
    show codeAny _ _ (.expr body (lamEnv X scope s1.heap.objs.size f c')) _ _
    have kp : ∀ b o, s1.heap.get? b = some o → h₁.get? b = some o := fun b o e => hsb.extBut b o (Nat.ne_of_lt (Heap.lt_size e)) (Heap.get?_push_of_some _ e)
    have J : Inv (lamCx X (X.A.deeper (envOfC qg sg s.heap.objs.size g cdg)) (envOfC qg sg s.heap.objs.size g cdg :: X.stack) s1 HZ E scope f c') [] σ HZ { s1 with heap := h₁, toks := s1.toks + ([] : List (Str × Value)).length } :=
      lam_start2 I L I1.env0 hr.hd un hns kp
    refine PySem.W.kla_codeExpr (wpAny_mono ((hbody _ _ s1 HZ (show (X.A.deeper (envOfC qg sg s.heap.objs.size g cdg)).guards = some [] from hgX) (hr.deeper _)).run [] _ _ HZ Q J ht) (fun v s' hq => ?_) fun e s' hq => hq)
    obtain ⟨w', H', J', rv, q⟩ := hq
    exact ⟨w', H', J'.os, J'.bare, J'.base, J'.hok, rv, q⟩
  have hx : Passes (L2.CX X.prog X.w) ((cxOf CXg X.prog X.w X.K X.mg X.base Ng qg sg g cdg X.A X.stack s H Eg).tr pn xe) E := passes_call tk hW
  refine wpAny_call (codeAny_mono rc fun r s' hq => ?_)
  cases r with
  | error e => exact hx pinsZ σZ HZ s1 e s' I1 hq
  | ok fl =>
    cases fl with
    | ret u => exact I1.after hq
    | next => exact False.elim hq
    | brk => exact False.elim hq
    | cont => exact False.elim hq
end
section
variable {X : Cx}
/-- x(lambda: body) -/
theorem pe_lamcallG {T : List (Addr × Str)} {TT : (XK → Hp → VK → Prop) → Hp → VK → Prop} {x a : Str} {g c P : Addr} {k : Nat} {pg : Arguments} {bg : List Stmt} {sg : Scope} {dV kV doc pm cdv ct oc : Value} {an od : Option Addr} {osl : Array (Option Value)} {Ng : List Str}
    {params : Arguments} {body : Expr} {scope : Scope} {t : XK → TE} {p lpos pos : Pos} (hg : Gl X x) (hm : X.mg x = some (.ref g)) (hk : PySem.W.keepIn X.K (.ref g) = true)
    (lk : X.K.lookup g = some ⟨oc, od, .func (PySem.W.fnOf x x pg bg sg dV kV doc pm an cdv ct), osl⟩) (hcg : PySem.W.codeIn X.K cdv x = true) (hb : L2.Binds X.K (PySem.W.fnOf x x pg bg sg dV kV doc pm an cdv ct) [a] []) (Sg : FnScope Ng [a] sg) (hNg : Ng[0]? = some a) (hva : Vis sg a)
    (hG : GivesTo X Ng x sg g cdv bg a (X.env.qual ++ "<lambda>") TT)
    (TB : TabB X.base X.mg c P) (hcode : X.env.code = .ref c) (hmT : (P, X.env.qual ++ "<lambda>") ∈ T) (hu : ∀ p ∈ T, p.1 = P → p.2 = X.env.qual ++ "<lambda>") (hgX : X.A.guards = some []) (hr : Room (k + 2) X.A) (L : LamS X.env.scope scope) (hdef : defaultsOf params X.env = ([], []))
    (hbind : ∀ (q : Str) (cl : List (Str × Addr)) (pm cv ctv : Value), bindArgs (PySem.W.kla_fn "<lambda>" q params body scope cl pm cv ctv) ⟨[], []⟩ = pure [])
    (hbody : ∀ (A : Around) (outer : List Env) (s : Shared) (H : Hp) (E : XK) (f c' : Addr), A.guards = some [] → Room k (A.deeper (lamEnv X scope s.heap.objs.size f c')) → PE (lamCx X A outer s H E scope f c') body (t E))
    (hdb : (x == ("__debug__" : Str)) = false := by decide) (hd : (a == ("__debug__" : Str)) = false := by decide) (hcd : (a == ("__classdict__" : Str)) = false := by decide) :
    PE X (.Call (.Name x p) [.Lambda params body scope lpos] [] pos) (tLam T TT t) := by
  refine ⟨fun pins s σ H Q I h => ?_⟩
  obtain ⟨hT, h⟩ := h
  refine wpAny_Call_Name_kw (ld_glob I hg hm ?_ hdb)
  refine PySem.W.callWith_K (h₀ := X.base) I.ok.mod.kin hk ?_ (by rfl) (by rfl)
  show wpAny _ _ (spliced ((false, eval (.Lambda params body scope lpos) X.env) :: backTo pos (starEach [] X.env))) _ _ s
  refine Calls.spliced_cons (lam_make2 I TB hcode hmT hu hT hdef (L.has I.ok) fun f c' pm' ctv H1 s' I1 eN T1 hf hfn hfr hco => ?_)
  refine Calls.spliced_nil ⟨I1.kIn, ?_⟩
  have rc : codeAny (model X.prog X.w) X.A (.call (.ref g) ⟨[.ref f], []⟩) (CR C8.CX0 X.stack X.prog X.w H1 s' Q C8.E0) s' := by
    refine run_ofS (N := Ng) (ps := [a]) (us := [.ref f]) (vs := [.ref f]) lk hcg Sg hr I1.env0 (hb s' [.ref f] I1.kIn rfl) (.cons rfl .nil) rfl fun hr' => ?_
    obtain ⟨t', ht', hq'⟩ := hG f c' s' H1 Q (fun E H' Q' => t E σ H' Q') (fun W pn xe E p1 p2 tk hW => pe_actG (i := 0) I1 L hf hfn hfr (hbind _ _ _ _ _) tk hW hgX hr' (fun A outer s H hg2 hr2 => hbody A outer s H E f c' hg2 hr2) hNg hva hd hcd) hco (h H1 eN T1)
    exact ⟨t', ht'.nox, hq'⟩
  refine wpAny_call (codeAny_mono rc fun r s2 hq => ?_)
  cases r with
  | error e => exact (show False from hq).elim
  | ok fl =>
    cases fl with
    | ret u => exact I1.after hq
    | next => exact False.elim hq
    | brk => exact False.elim hq
    | cont => exact False.elim hq
end
theorem pe_caught {X : Cx} {T : List (Addr × Str)} {P c : Addr} {k : Nat} {stc : Stmt} {params : Arguments} {body : Expr} {scope : Scope} {t : XK → TE} {p lpos pos : Pos} {qq : Str}
    (D : Dfd X.K X.mg "_law_caught" stc) (Sg : FnScope ["_law_call", "_law_e"] ["_law_call"] (defScope stc)) (pb : PosB "_law_caught" stc ["_law_call"]) (hva : Vis (defScope stc) "_law_call") (hg : Gl X "_law_caught")
    (hG : ∀ cdv, GivesTo X ["_law_call", "_law_e"] "_law_caught" (defScope stc) (He.ga X.K "_law_caught") cdv (defBody stc) "_law_call" qq (TCaught X.K))
    (TB : TabB X.base X.mg c P) (hcode : X.env.code = .ref c) (hmT : (P, qq) ∈ T) (hu : ∀ p ∈ T, p.1 = P → p.2 = qq) (hq : X.env.qual ++ "<lambda>" = qq) (hgX : X.A.guards = some []) (hr : Room (k + 2) X.A) (L : LamS X.env.scope scope) (hdef : defaultsOf params X.env = ([], []))
    (hbind : ∀ (q : Str) (cl : List (Str × Addr)) (pm cv ctv : Value), bindArgs (PySem.W.kla_fn "<lambda>" q params body scope cl pm cv ctv) ⟨[], []⟩ = pure [])
    (hbody : ∀ (A : Around) (outer : List Env) (s : Shared) (H : Hp) (E : XK) (f c' : Addr), A.guards = some [] → Room k (A.deeper (lamEnv X scope s.heap.objs.size f c')) → PE (lamCx X A outer s H E scope f c') body (t E)) :
    PE X (.Call (.Name "_law_caught" p) [.Lambda params body scope lpos] [] pos) (tLam T (TCaught X.K) t) := by
  subst hq
  obtain ⟨fd, F⟩ := D.ex
  have kp := FunD.kp F
  obtain ⟨oc, od, dV, kV, doc, pm, an, cdv, ct, osl, rfl, lk, hcd, _, _⟩ := F.ex
  obtain ⟨kV2, doc2, pm2, an2, cdv2, ct2, efd⟩ := FunD.noDef F
  refine pe_lamcallG hg D.glo kp lk hcd (Binds.all fun us hl => ?_) Sg rfl hva (hG cdv) TB hcode hmT hu hgX hr L hdef hbind hbody
  rw [efd]
  exact pb kV2 doc2 pm2 an2 cdv2 ct2 us hl
end TP
namespace TP
open PySem PySem.Spec PyProof.Rows L2 LamX
theorem takesL {X : Cx} {A : Around} {outer : List Env} {s : Shared} {H : Hp} {E : XK} {scope : Scope} {f c' : Addr} : Takes (lamCx X A outer s H E scope f c') (fun cls d _ H' => E cls d H') := takes_of rfl rfl rfl rfl
theorem w_told {H : Hp} {Q : VK} {v : V} (h : ∀ p H', Same H H' → H' p = some (.lst [.str "returned", v]) → Q (.ref p) H') : LstC [.str "returned", v] H Q := ⟨by show 2 ≤ sizeLine; rw [sizeLine_eq]; decide, fun p hp => h p _ (same_new hp) upd_same⟩
theorem w_held {K : PySem.W.Frag} {H : Hp} {Q : VK} {C f wd : Str} {y : V} {dd : Addr} (he : (C, f, wd) ∈ exTab) (hd : H dd = some (.xd [(f, y)])) (h : ∀ l H', Same H H' → H' l = some (.lst [.str wd, y]) → Q (.ref l) H') : CaughtC K (.ref (He.ga K C)) (some dd) H Q := ⟨(C, f, wd), y, dd, he, rfl, rfl, hd, h⟩
theorem x_mut2 {H He H' : Hp} {R : Addr} {o : HO} (s : ExtN H H') (h0 : ExtN H He) (hR : He R = none) : ExtN H (upd H' R o) := fun b u e n => by
  rw [upd_ne (fun z => by
    rw [z] at e
    have h1 := h0 _ _ e n
    rw [hR] at h1
    cases h1)]
  exact s b u e n
section
variable {P : Program} {w : World} {K : PySem.W.Frag} {mg : Str → Option Value} {base : Heap} {CX : CXT} {k : Nat} {x : Str} {st : Stmt} {N ps : List Str} {sp : Sp}
/-- a def that makes lambdas: its code object is told -/
theorem Dfd.hasL (D : Dfd K mg x st) (S : FnScope N ps (defScope st)) (len : ∀ vs H Q E, sp vs H Q E → vs.length = ps.length)
    (hbody : ∀ (cdv : Value) (A : Around) (outer : List Env) (s : Shared) (H : Hp) (vs : List V) (Q : VK) (E : XK), cdv = .ref (He.cT K (x, none)).1 → Room k (A.deeper (envOfC x (defScope st) s.heap.objs.size (He.ga K x) cdv)) → (A.deeper (envOfC x (defScope st) s.heap.objs.size (He.ga K x) cdv)).guards = some [] → sp vs H Q E →
      ∃ t, PSs (cxOf CX P w K mg base N x (defScope st) (He.ga K x) cdv A outer s H E) (defBody st) t ∧ t { nx := fun _ H' => Q .non H', rt := Q } (L2.start N vs) H) :
    Has P w K mg base CX (k + 1) x st ps sp := by
  obtain ⟨fd, F⟩ := D.ex
  refine ⟨⟨fd, F, ?_⟩, D.glo⟩
  obtain ⟨oc, od, dV, kV, doc, pm, an, cdv, ct, osl, rfl, lk, hcd, _, _⟩ := F.ex
  have hc1 : cdv = .ref (He.cT K (x, none)).1 := by
    obtain ⟨c, e⟩ := He.codeIn_ref hcd
    subst e
    exact congrArg Value.ref (He.codeOf_eq (p := (x, none)) lk rfl).symm
  refine ⟨len, fun A outer s H args us vs Q E hr hg e0 hb r hsp => ?_⟩
  have hl := len _ _ _ _ hsp
  have kx : K.In s.heap := e0.mod.kin.keeps fun b o e => (e0.bs b o e).1
  have nl : s.heap.NoLimit := e0.mod.nolimit.keeps fun b o e => (e0.bs b o e).1
  refine codeAny_call_function hr.depth (kx _ _ lk) rfl S.co S.gen rfl (PySem.W.codeRec_of kx hcd) (hb _ _ _ _ ?_)
  refine wpAny_newFunctionEnv_cells S.kind (fun ⟨n, v⟩ hy => by
    rcases S.par n (List.of_mem_zip hy).1 with q | q
    · exact .inl q
    · exact .inr ⟨q, PySem.W.cellsFrom_some _ _ _ (.inl q)⟩) fun env he s1 ic => ?_
  subst he
  refine ⟨nl.keeps ic.toInCall.keep, codeAny_func ?_⟩
  obtain ⟨t, ht, hq⟩ := hbody cdv A outer s H vs Q E hc1 (hr.deeper _) hg hsp
  have I0 := L2.inv_start (CX := CX) (E := E) S hr.hd e0 hl r ic
  refine wpAny_mono (ht.run [] s1 (L2.start N vs) H _ I0 hq) (fun fl s' hs => ?_) fun e s' hs => hs
  cases fl with
  | ret u =>
    obtain ⟨v, σ', H', J, rv, q⟩ := hs
    exact ⟨v, H', J.os, J.bare, J.base, J.hok, rv, q⟩
  | next =>
    obtain ⟨σ', H', J, q⟩ := hs
    exact ⟨.non, H', J.os, J.bare, J.base, J.hok, rfl, q⟩
  | brk =>
    obtain ⟨_, _, _, q⟩ := hs
    exact q.elim
  | cont =>
    obtain ⟨_, _, _, q⟩ := hs
    exact q.elim
end
end TP

/-! data among which empty dicts stand -/
namespace TP
open PySem PySem.Spec PyProof.Rows L2 LamX
mutual
inductive Dx (K : PySem.W.Frag) (H : Hp) : V → PyData → Prop
  | non : Dx K H .non .none
  | bl (b : Bool) : Dx K H (.bl b) (.bool b)
  | int (i : Int) : Dx K H (.int i) (.int i)
  | str (x : Str) : Dx K H (.str x) (.str x)
  | lst {a : Addr} {xs : List V} {ds : List PyData} : SqL K H a xs → DxAll K H xs ds → Dx K H (.ref a) (.list ds)
  | tup {a : Addr} {xs : List V} {ds : List PyData} : SqT K H a xs → DxAll K H xs ds → Dx K H (.ref a) (.tuple ds)
  | dct {a : Addr} : H a = some (.dK []) → Dx K H (.ref a) (.dict [])
inductive DxAll (K : PySem.W.Frag) (H : Hp) : List V → List PyData → Prop
  | nil : DxAll K H [] []
  | cons {v : V} {vs : List V} {d : PyData} {ds : List PyData} : Dx K H v d → DxAll K H vs ds → DxAll K H (v :: vs) (d :: ds)
end
mutual
theorem dp_dx {K : PySem.W.Frag} {H : Hp} : ∀ {v : V} {d : PyData}, Dp K H v d → Dx K H v d
  | _, _, .non => .non
  | _, _, .bl b => .bl b
  | _, _, .int i => .int i
  | _, _, .str x => .str x
  | _, _, .lst h r => .lst h (dps_dx r)
  | _, _, .tup h r => .tup h (dps_dx r)
theorem dps_dx {K : PySem.W.Frag} {H : Hp} : ∀ {vs : List V} {ds : List PyData}, DpAll K H vs ds → DxAll K H vs ds
  | _, _, .nil => .nil
  | _, _, .cons h r => .cons (dp_dx h) (dps_dx r)
end
mutual
theorem dx_x {K : PySem.W.Frag} {H H' : Hp} (s : ExtN H H') : ∀ {v : V} {d : PyData}, Dx K H v d → Dx K H' v d
  | _, _, .non => .non
  | _, _, .bl b => .bl b
  | _, _, .int i => .int i
  | _, _, .str x => .str x
  | _, _, .lst h r => .lst (sql_x s h) (dxs_x s r)
  | _, _, .tup h r => .tup (sqt_x s h) (dxs_x s r)
  | _, _, .dct h => .dct (dk_x s h)
theorem dxs_x {K : PySem.W.Frag} {H H' : Hp} (s : ExtN H H') : ∀ {vs : List V} {ds : List PyData}, DxAll K H vs ds → DxAll K H' vs ds
  | _, _, .nil => .nil
  | _, _, .cons h r => .cons (dx_x s h) (dxs_x s r)
end
theorem dx_same {K : PySem.W.Frag} {H H' : Hp} (s : Same H H') {v : V} {d : PyData} (h : Dx K H v d) : Dx K H' v d := dx_x (ExtN.of s) h
theorem dxs_same {K : PySem.W.Frag} {H H' : Hp} (s : Same H H') {vs : List V} {ds : List PyData} (h : DxAll K H vs ds) : DxAll K H' vs ds := dxs_x (ExtN.of s) h
section
variable {K : PySem.W.Frag} {H : Hp}
theorem dxs_len : ∀ {vs : List V} {ds : List PyData}, DxAll K H vs ds → vs.length = ds.length
  | _, _, .nil => rfl
  | _, _, .cons _ r => by rw [List.length_cons, List.length_cons, dxs_len r]
theorem dxs_get : ∀ {vs : List V} {ds : List PyData} {i : Nat} {v : V}, DxAll K H vs ds → vs[i]? = some v → ∃ d, ds[i]? = some d ∧ Dx K H v d
  | _, _, i, _, .nil, e => by simp at e
  | _, _, 0, _, .cons h _, e => by simp at e; subst e; exact ⟨_, rfl, h⟩
  | _, _, i + 1, v, .cons _ r, e => by
    obtain ⟨d, h1, h2⟩ := dxs_get (i := i) r (by simpa using e)
    exact ⟨d, by simpa using h1, h2⟩
theorem dxs_app : ∀ {vs ws : List V} {ds es : List PyData}, DxAll K H vs ds → DxAll K H ws es → DxAll K H (vs ++ ws) (ds ++ es)
  | _, _, _, _, .nil, h => h
  | _, _, _, _, .cons a r, h => .cons a (dxs_app r h)
theorem dx_int_inv {v : V} {i : Int} (h : Dx K H v (.int i)) : v = .int i := by cases h; rfl
theorem dx_str_inv {v : V} {x : Str} (h : Dx K H v (.str x)) : v = .str x := by cases h; rfl
theorem dx_tup_inv {v : V} {ds : List PyData} (h : Dx K H v (.tuple ds)) : ∃ a xs, v = .ref a ∧ SqT K H a xs ∧ DxAll K H xs ds := by cases h with | tup h r => exact ⟨_, _, rfl, h, r⟩
theorem ty_dx {v : V} {d : PyData} (h : Dx K H v d) : TyX K H v (.type (tyD d)) := by
  cases h with
  | non => exact .base .non
  | bl b => exact .base (.bl b)
  | int i => exact .base (.int i)
  | str x => exact .base (.str x)
  | lst h _ =>
    rcases h with (h | ⟨o, h⟩) | ⟨o, its, n, h, c, _⟩
    · exact .base (.lst h)
    · exact .base (.frz h)
    · exact .kList h c
  | tup h _ =>
    rcases h with (h | ⟨o, h⟩) | ⟨o, its, n, h, c, _⟩
    · exact .base (.tup h)
    · exact .fTuple h
    · exact .kTuple h c
  | dct h => exact .base (.dK h)
theorem w_isiX {Q : VK} {v : V} {d : PyData} {T : String} {b : Bool} (h : Dx K H v d) (e : kitB (tyD d) T = some b) (q : Q (.bl b) H) : rIsi K [v, .ty T] H Q := w_isi (ty_dx h) e q
end
/-! ### lists alone are changed -/
def SameM (H H' : Hp) : Prop := ∀ a o, H a = some o → (∀ xs, o ≠ .lst xs) → H' a = some o
theorem SameM.lst {H : Hp} {l : Addr} {xs : List V} {u : HO} (h : H l = some (.lst xs)) : SameM H (upd H l u) := fun a o e n => by
  by_cases z : a = l
  · subst z; rw [h] at e; cases e; exact absurd rfl (n xs)
  · rw [upd_ne z]; exact e
theorem SameM.sqt {K : PySem.W.Frag} {H H' : Hp} {a : Addr} {xs : List V} (s : SameM H H') (h : SqT K H a xs) : SqT K H' a xs := by
  rcases h with (h | ⟨o, h⟩) | h
  · exact .inl (.inl (s _ _ h nofun))
  · exact .inl (.inr ⟨o, s _ _ h nofun⟩)
  · exact .inr h
mutual
/-- no list stands in it -/
def noL : PyData → Bool
  | .list _ => false
  | .tuple ds => noLs ds
  | _ => true
def noLs : List PyData → Bool
  | [] => true
  | d :: r => noL d && noLs r
end
mutual
theorem dx_m {K : PySem.W.Frag} {H H' : Hp} (s : SameM H H') : ∀ {v : V} {d : PyData}, Dx K H v d → noL d = true → Dx K H' v d
  | _, _, .non, _ => .non
  | _, _, .bl b, _ => .bl b
  | _, _, .int i, _ => .int i
  | _, _, .str x, _ => .str x
  | _, _, .lst h r, f => by simp [noL] at f
  | _, _, .tup h r, f => .tup (s.sqt h) (dxs_m s r (by simpa [noL] using f))
  | _, _, .dct h, _ => .dct (s _ _ h nofun)
theorem dxs_m {K : PySem.W.Frag} {H H' : Hp} (s : SameM H H') : ∀ {vs : List V} {ds : List PyData}, DxAll K H vs ds → noLs ds = true → DxAll K H' vs ds
  | _, _, .nil, _ => .nil
  | _, _, .cons h r, f => by
    have f2 := Bool.and_eq_true_iff.mp (show (noL _ && noLs _) = true from f)
    exact .cons (dx_m s h f2.1) (dxs_m s r f2.2)
end
/-! ### what they show -/
mutual
/-- a bound of the shown text -/
def rbX : PyData → Nat
  | .none => 5
  | .bool _ => 5
  | .int _ => 1921
  | .str x => 10 * x.length + 2
  | .list ds => rbXs ds + 2
  | .tuple ds => rbXs ds + 3
  | .dict _ => 2
def rbXs : List PyData → Nat
  | [] => 0
  | d :: r => rbX d + 2 + rbXs r
end
mutual
def okX : PyData → Bool
  | .none => true
  | .bool _ => true
  | .int i => decide (i.natAbs.log2 < 1920)
  | .str x => x.cps.toList.all fun c => decide (c < 16 ^ 8)
  | .list ds => okXs ds
  | .tuple ds => okXs ds
  | .dict kvs => kvs.isEmpty
def okXs : List PyData → Bool
  | [] => true
  | d :: r => okX d && okXs r
end
mutual
theorem shown_leX : ∀ d : PyData, okX d = true → d.shown.length ≤ rbX d
  | .none, _ => by simp only [PyData.shown, rbX]; decide
  | .bool b, _ => by cases b <;> simp only [PyData.shown, rbX] <;> decide
  | .int i, h => by
    have h' : i.natAbs.log2 < 1920 := of_decide_eq_true (by simpa [okX] using h)
    simp only [PyData.shown, rbX]
    exact int_text_len_1921 h'
  | .str x, h => by
    simp only [PyData.shown, rbX]
    refine PySem.StrLaws.reprText_len x fun c hc => ?_
    have h' := List.all_eq_true.mp (by simpa only [okX] using h) c hc
    exact of_decide_eq_true h'
  | .list ds, h => by
    have ih := shownAll_leX ds (by simpa [okX] using h)
    simp only [PyData.shown, rbX, listText]
    have h1 := textFrom_le (PyData.shownAll ds) 0 "["
    rw [str_app_len]
    have e1 : (Str.ofString "[").length = 1 := by decide
    have e2 : (Str.ofString "]").length = 1 := by decide
    rw [e1] at h1
    rw [e2]
    omega
  | .tuple ds, h => by
    have ih := shownAll_leX ds (by simpa [okX] using h)
    simp only [PyData.shown, rbX, tupleText]
    rw [str_app_len, str_app_len]
    have h1 := StrLaws.join_length_le (Str.ofString ", ") (PyData.shownAll ds)
    have e0 : (Str.ofString ", ").length = 2 := by decide
    rw [e0] at h1
    have e1 : (Str.ofString "(").length = 1 := by decide
    have e2 : (Str.ofString (if ((PyData.shownAll ds).length == 1) = true then ",)" else ")")).length ≤ 2 := by
      by_cases z : ((PyData.shownAll ds).length == 1) = true
      · rw [if_pos z]; decide
      · rw [if_neg z]; decide
    have e3 : ((PyData.shownAll ds).map fun t => t.length + 2).sum = ((PyData.shownAll ds).map (·.length)).sum + (PyData.shownAll ds).length * 2 := by
      generalize PyData.shownAll ds = l
      induction l with
      | nil => rfl
      | cons a r ih2 => simp only [List.map_cons, List.sum_cons, List.length_cons]; omega
    rw [e1]
    omega
  | .dict [], _ => by simp only [PyData.shown, rbX]; decide
  | .dict (_ :: _), h => by simp [okX] at h
theorem shownAll_leX : ∀ ds : List PyData, okXs ds = true → ((PyData.shownAll ds).map fun t => t.length + 2).sum ≤ rbXs ds
  | [], _ => by simp [PyData.shownAll, rbXs]
  | d :: r, h => by
    have h' := Bool.and_eq_true_iff.mp (show (okX d && okXs r) = true from h)
    have h1 := shown_leX d h'.1
    have h2 := shownAll_leX r h'.2
    simp only [PyData.shownAll, rbXs, List.map_cons, List.sum_cons]
    omega
end
mutual
theorem showable_ofX : ∀ d : PyData, okX d = true → d.showable = true
  | .none, _ => by simp [PyData.showable]
  | .bool b, _ => by simp [PyData.showable]
  | .int i, h => by simp only [PyData.showable]; simpa [okX] using h
  | .str x, _ => by simp [PyData.showable]
  | .list ds, h => by simp only [PyData.showable]; exact showables_ofX ds (by simpa [okX] using h)
  | .tuple ds, h => by simp only [PyData.showable]; exact showables_ofX ds (by simpa [okX] using h)
  | .dict [], _ => by simp [PyData.showable, PyData.showableKv]
  | .dict (_ :: _), h => by simp [okX] at h
theorem showables_ofX : ∀ ds : List PyData, okXs ds = true → PyData.showableAll ds = true
  | [], _ => by simp [PyData.showableAll]
  | d :: r, h => by
    have h' := Bool.and_eq_true_iff.mp (show (okX d && okXs r) = true from h)
    simp [PyData.showableAll, showable_ofX d h'.1, showables_ofX r h'.2]
end
end TP
namespace TP
open PySem PySem.Spec PyProof.Rows L2 LamX
section
variable {X : Cx} {pins : List (Addr × Obj)} {σ : L2.St} {H : Hp} {s : Shared}
theorem dct_reads (I : Inv X pins σ H s) {a : Addr} (h : H a = some (.dK [])) : Reads s.heap (.ref a) (.dict []) (a :: [] ++ []) ∧ sysModules ∉ (a :: [] ++ [] : List Addr) := by
  obtain ⟨_, hsm, vs, hkv, o, es, ep, ho, hx, hd, _, hp, _⟩ := dk_of I.hok h
  have ev : vs = [] := by
    cases hkv
    rfl
  subst ev
  have ee : es.toList = [] := by
    generalize es.toList = l at hp
    cases hp
    rfl
  refine ⟨Reads.dict ho hx.1 hd (by rw [ee]; exact .nil) (by rw [ee]; exact .nil), fun hm => ?_⟩
  have hm : sysModules ∈ [a] := hm
  rw [List.mem_singleton.mp hm] at hsm
  simp at hsm
mutual
theorem Dx.reads (I : Inv X pins σ H s) : ∀ (d : PyData) (v : V) (u : Value), Dx X.K H v d → RelV v u → ∃ as, Reads s.heap u d as ∧ (noL d = true → sysModules ∉ as)
  | .none, _, _, h, r => by
    cases h
    cases r
    exact ⟨_, Reads.none, fun _ => List.not_mem_nil⟩
  | .bool b, _, _, h, r => by
    cases h
    cases r
    exact ⟨_, Reads.bool b, fun _ => List.not_mem_nil⟩
  | .int i, _, _, h, r => by
    cases h
    obtain ⟨t, rfl⟩ := r
    exact ⟨_, Reads.int i t, fun _ => List.not_mem_nil⟩
  | .str x, _, _, h, r => by
    cases h
    obtain ⟨t, rfl⟩ := r
    exact ⟨_, Reads.str x t, fun _ => List.not_mem_nil⟩
  | .list ds, _, _, h, r => by
    cases h with
    | lst hs ha =>
      cases r
      obtain ⟨its, rv, ⟨o, n, ho, hc, _, hd⟩, _⟩ := I.list hs
      obtain ⟨as, hr, _⟩ := Dx.readsAll I ds _ its ha rv
      exact ⟨_, Reads.list ho hc hd hr, fun z => by simp [noL] at z⟩
  | .tuple ds, _, _, h, r => by
    cases h with
    | tup hs ha =>
      cases r
      obtain ⟨its, rv, ⟨o, ho, hc, n, hd⟩, _⟩ := I.tuple hs
      obtain ⟨as, hr, hno⟩ := Dx.readsAll I ds _ its ha rv
      exact ⟨_, Reads.tuple ho hc hd hr, fun z => hno (by simpa [noL] using z)⟩
  | .dict _, _, _, h, r => by
    cases h with
    | dct hd =>
      cases r
      obtain ⟨h1, h2⟩ := dct_reads I hd
      exact ⟨_, h1, fun _ => h2⟩
theorem Dx.readsAll (I : Inv X pins σ H s) : ∀ (ds : List PyData) (vs : List V) (us : List Value), DxAll X.K H vs ds → Vals vs us → ∃ as, ReadsAll s.heap us ds as ∧ (noLs ds = true → sysModules ∉ as)
  | [], _, _, h, r => by
    cases h
    cases r
    exact ⟨_, ReadsAll.nil, fun _ => List.not_mem_nil⟩
  | d :: ds, _, _, h, r => by
    cases h with
    | cons h1 h2 =>
      cases r with
      | cons r1 r2 =>
        obtain ⟨as, q1, n1⟩ := Dx.reads I d _ _ h1 r1
        obtain ⟨bs, q2, n2⟩ := Dx.readsAll I ds _ _ h2 r2
        refine ⟨_, ReadsAll.cons q1 q2, fun z hm => ?_⟩
        have z2 := Bool.and_eq_true_iff.mp (show (noL d && noLs ds) = true from z)
        exact (List.mem_append.mp hm).elim (n1 z2.1) (n2 z2.2)
end
/-- where an empty dict stands in it, no list stands below its top -/
def topL (d : PyData) : Bool := !d.hasDict || match d with
  | .list ds => noLs ds
  | .tuple ds => noLs ds
  | _ => true
structure ShowsX (d : PyData) : Prop where
  ok : okX d = true
  len : rbX d ≤ 16777216
  deep : d.depth ≤ 60
  top : topL d = true
def rReprX (K : PySem.W.Frag) : List V → Hp → VK → Prop := fun xs H Q => ∃ v d, xs = [v] ∧ Dx K H v d ∧ ShowsX d ∧ Q (.str d.shown) H
theorem showsByX (I : Inv X pins σ H s) {a : Addr} {d : PyData} (h : Dx X.K H (.ref a) d) (hk : okX d = true) (ht : topL d = true) (hsz : d.shown.length ≤ sizeLine) : ∃ T idr, ShowsBy X.prog X.w s.heap a d T idr := by
  have hs := showable_ofX d hk
  cases h with
  | lst hq ha =>
    rename_i vs xs
    obtain ⟨its, rv, ⟨o, n, h1, h2, _, h3⟩, _⟩ := I.list hq
    obtain ⟨as, h4, hno⟩ := Dx.readsAll I xs _ its ha rv
    have hz' : (listText (PyData.shownAll xs)).length ≤ sizeLine := by simpa only [PyData.shown] using hsz
    have hx0 : PyData.hasDictAll xs = true → sysModules ∉ as := fun hx => hno (by
      have z : (!(PyData.list xs).hasDict || noLs xs) = true := ht
      rw [show (PyData.list xs).hasDict = true by simpa [PyData.hasDict] using hx] at z
      simpa using z)
    have h4' : ReadsAll s.heap its.toArray.toList xs as := by simpa using h4
    obtain ⟨bs, hb, hkk⟩ := ReprAllK.of_readsAll (prog := X.prog) (w := X.w) h4' (by simpa [PyData.showable] using hs) hx0 fun t ht => Nat.le_trans (listText_mem_le ht) hz'
    have hna : a ∉ bs := not_mem_of_deeper (.list h1 h2 h3 h4') (by simp only [PyData.depth]; omega) hb
    refine ⟨"list", "list.__repr__", F.slot_list_repr.toG, F.slot_list_str, F.slot_list_format, fun s hk0 => ⟨o, hk0 _ _ h1, h2⟩, fun A E s Q hg hu hk0 hQ => ?_⟩
    simp only [PyData.depth] at hu
    simp only [PyData.shown] at hQ
    cases its with
    | nil =>
      cases h4
      simp only [PyData.shownAll, listText_nil] at hQ
      exact call_list_repr_empty ⟨o, hk0 _ _ h1, h2⟩ (hk0 _ _ h1) h3 (hQ s.heap _ _ fun _ _ e => e)
    | cons x l => exact call_list_reprK h1 h2 h3 hna (by simpa using hkk.length_eq) (fun i y e => hkk.item i y (by simpa using e)) hg (fun b _ => Clear.nil b) hu hk0 hQ hz'
  | tup hq ha =>
    rename_i vs xs
    obtain ⟨its, rv, ⟨o, h1, h2, n, h3⟩, _⟩ := I.tuple hq
    obtain ⟨as, h4, hno⟩ := Dx.readsAll I xs _ its ha rv
    have h4' : ReadsAll s.heap its.toArray.toList xs as := by simpa using h4
    refine showsBy_of_reads (Reads.tuple h1 h2 h3 h4') hs (fun hx => hno ?_) hsz
    have z : (!(PyData.tuple xs).hasDict || noLs xs) = true := ht
    rw [hx] at z
    simpa using z
  | dct hd =>
    obtain ⟨h1, h2⟩ := dct_reads I hd
    exact showsBy_of_reads h1 hs (fun _ => h2) hsz
end
theorem call_reprX {X : Cx} (hg : X.A.guards = some []) (hu : X.A.units + 64 < cLine) : CallR X (.builtin "repr") (rReprX X.K) := by
  intro pins s σ H xs us Q I r h
  obtain ⟨v, d, rfl, hd, hs, q⟩ := h
  obtain ⟨u, rfl, ru⟩ := vals1 r
  have hz : d.shown.length ≤ sizeLine := Nat.le_trans (shown_leX d hs.ok) (Nat.le_trans hs.len (by rw [sizeLine_eq]; exact Nat.le_refl _))
  have big : ∀ a, v = .ref a → wpAny (model X.prog X.w) X.A (call (.builtin "repr") [u]) (EP X pins σ Q) X.xe s := fun a e => by
    subst e
    obtain rfl : u = Value.ref a := ru
    obtain ⟨T, idr, S⟩ := showsByX I hd hs.ok hs.top hz
    refine call_repr_slot (by omega) (S.typeIs s fun _ _ e => e) S.slotRepr (S.call X.A.in1 X.xe s _ hg (by have := hs.deep; show X.A.units + 1 + d.depth < cLine; omega) (fun _ _ e => e) fun h' w' tk hk => ⟨_, _, rfl, ?_⟩)
    exact ⟨.str d.shown, H, I.kept (t' := tk) hk, ⟨_, rfl⟩, q⟩
  cases hd with
  | non =>
    have e : u = .none := ru
    subst e
    exact PySem.P.repr_of_none ⟨.str _, H, I.tok _, ⟨_, rfl⟩, q⟩
  | bl b =>
    have e : u = .bool b := ru
    subst e
    refine PySem.P.repr_of_bool ⟨.str _, H, I.tok _, ⟨_, rfl⟩, ?_⟩
    cases b <;> exact q
  | int i =>
    obtain ⟨t, rfl⟩ := ru
    refine PySem.P.repr_of_int ?_ ⟨.str _, H, I.tok _, ⟨_, rfl⟩, q⟩
    simpa [okX] using hs.ok
  | str x =>
    obtain ⟨t, rfl⟩ := ru
    exact PySem.P.repr_of_str ⟨.str _, H, I.tok _, ⟨_, rfl⟩, q⟩ hz
  | lst _ _ => exact big _ rfl
  | tup _ _ => exact big _ rfl
  | dct _ => exact big _ rfl
end TP

/-! any value as an order -/
namespace TP
open PySem PySem.Spec PyProof.Rows L2 LamX
/-- what the error of no order tells -/
def ordV : PyData → V
  | .tuple ds => optV (firstNo ds)
  | _ => .non
/-- what is due: None, the first index that is none, -1 -/
def dueV : PyData → V
  | .tuple ds => match firstNo ds with
    | none => .int (-1)
    | some i => .int (i : Nat)
  | _ => .non
def dueD : PyData → PyData
  | .tuple ds => match firstNo ds with
    | none => .none
    | some i => .int (i : Nat)
  | _ => .none
theorem run_pair {d : PyData} (h : runD d = true) : ∃ p : Str × Int, d = pairD p ∧ isName p.1 = true ∧ 1 ≤ p.2 := by
  unfold runD at h
  split at h
  · rename_i a b
    rw [Bool.and_eq_true] at h
    obtain ⟨h1, h2⟩ := h
    cases a with
    | str x =>
      cases b with
      | int i => exact ⟨(x, i), rfl, h1, of_decide_eq_true h2⟩
      | _ => cases h2
    | _ => cases h1
  · cases h
theorem runs_of : ∀ {ds : List PyData}, (∀ d ∈ ds, runD d = true) → ∃ ps : Bag, ds = ps.map pairD ∧ ∀ p ∈ ps, isName p.1 = true ∧ 1 ≤ p.2
  | [], _ => ⟨[], rfl, nofun⟩
  | d :: ds, h => by
    obtain ⟨p, rfl, h1, h2⟩ := run_pair (h d List.mem_cons_self)
    obtain ⟨ps, rfl, h3⟩ := runs_of fun d hd => h d (List.mem_cons_of_mem _ hd)
    refine ⟨p :: ps, rfl, fun q hq => ?_⟩
    rcases List.mem_cons.mp hq with rfl | hq
    · exact ⟨h1, h2⟩
    · exact h3 q hq
/-- data without dicts -/
theorem dx_bag {K : PySem.W.Frag} {H : Hp} {v : V} {ps : Bag} (h : Dx K H v (bagD ps)) : Dp K H v (bagD ps) := by
  obtain ⟨a, xs, rfl, hs, hx⟩ := dx_tup_inv h
  refine .tup hs ?_
  clear hs h
  induction ps generalizing xs with
  | nil => cases hx; exact .nil
  | cons p ps ih =>
    cases hx with
    | cons r hx =>
      obtain ⟨b, ys, rfl, hb, hy⟩ := dx_tup_inv r
      refine .cons (.tup hb ?_) (ih _ hx)
      cases hy with
      | cons r0 hy =>
      cases hy with
      | cons r1 hy =>
      cases hy
      cases dx_str_inv r0
      cases dx_int_inv r1
      exact .cons (.str _) (.cons (.int _) .nil)
/-- an element that may stand in an order: texts not too long, a pair's number not too great -/
def smallE (d : PyData) : Bool := szD d && match d with
  | .tuple [.str _, .int i] => decide (i ≤ 10 ^ 100)
  | _ => true
/-- a value that is asked as an order -/
structure OddD (d : PyData) : Prop where
  sz : szD d = true
  len : ∀ ds, d = .tuple ds → ds.length ≤ 5000
  big : ∀ ps : Bag, d = bagD ps → ∀ p ∈ ps, p.2 ≤ 10 ^ 100
theorem szDs_all : ∀ {ds : List PyData}, (∀ d ∈ ds, szD d = true) → szDs ds = true
  | [], _ => rfl
  | d :: ds, h => by
    show (szD d && szDs ds) = true
    rw [h d List.mem_cons_self, szDs_all fun e he => h e (List.mem_cons_of_mem _ he)]; rfl
end TP

/-! literals: a reading that gives data -/
namespace TP
open PySem PySem.Spec PyProof.Rows L2 LamX
/-- from H on, the reading gives the data d -/
def GivesD (K : PySem.W.Frag) (σ : L2.St) (H : Hp) (te : TE) (d : PyData) : Prop := ∀ H0, Same H H0 → ∀ Q : VK, (∀ v H', Same H0 H' → Dx K H' v d → Q v H') → te σ H0 Q
def GivesA (K : PySem.W.Frag) (σ : L2.St) (H : Hp) (tr : TA) (ds : List PyData) : Prop := ∀ H0, Same H H0 → ∀ Q : List V → Hp → Prop, (∀ vs H', Same H0 H' → DxAll K H' vs ds → Q vs H') → tr σ H0 Q
/-- .. a list of its own -/
def GivesL (K : PySem.W.Frag) (σ : L2.St) (H : Hp) (te : TE) (ds : List PyData) : Prop := ∀ H0, Same H H0 → ∀ Q : VK, (∀ l xs H', Same H0 H' → H' l = some (.lst xs) → DxAll K H' xs ds → Q (.ref l) H') → te σ H0 Q
section
variable {K : PySem.W.Frag} {σ : L2.St} {H : Hp} {te : TE} {tr : TA} {d : PyData} {ds es : List PyData}
theorem gd_int {i : Int} : GivesD K σ H (tC (.int i)) (.int i) := fun H0 _ Q h => h _ _ (Same.refl _) (.int i)
theorem gd_neg {i : Int} : GivesD K σ H (tUn (rU fun i => .int (-i)) (tC (.int i))) (.int (-i)) := fun H0 _ Q h => ⟨i, rfl, h _ _ (Same.refl _) (.int _)⟩
theorem gd_str {x : Str} : GivesD K σ H (tC (.str x)) (.str x) := fun H0 _ Q h => h _ _ (Same.refl _) (.str x)
theorem gd_bl {b : Bool} : GivesD K σ H (tC (.bl b)) (.bool b) := fun H0 _ Q h => h _ _ (Same.refl _) (.bl b)
theorem gd_non : GivesD K σ H (tC .non) .none := fun H0 _ Q h => h _ _ (Same.refl _) .non
theorem gd_var {i : Nat} {v : V} (e : σ[i]? = some (some v)) (hd : Dx K H v d) : GivesD K σ H (tVar i) d := fun H0 s Q h => ⟨v, e, h v H0 (Same.refl _) (dx_same s hd)⟩
theorem gd_dct : GivesD K σ H tDNewK (.dict []) := fun H0 _ Q h p hp => h _ _ (same_new hp) (.dct upd_same)
theorem gd_pow {i j : Int} (h : CPow i j) : GivesD K σ H (tOp (rI CPow fun i j => .int (i ^ j.toNat)) (tC (.int i)) (tC (.int j))) (.int (i ^ j.toNat)) := fun H0 _ Q k => ⟨i, j, rfl, rfl, h, k _ _ (Same.refl _) (.int _)⟩
theorem ga_nil : GivesA K σ H tNil [] := fun H0 _ Q h => h _ _ (Same.refl _) .nil
theorem ga_cons (h1 : GivesD K σ H te d) (h2 : GivesA K σ H tr ds) : GivesA K σ H (tCons te tr) (d :: ds) := fun H0 s Q h =>
  h1 H0 s _ fun v H1 s1 hv => h2 H1 (s.trans s1) _ fun vs H2 s2 hvs => h _ _ (s1.trans s2) (.cons (dx_same s2 hv) hvs)
theorem gd_tup (h : GivesA K σ H tr ds) (hl : ds.length.ble 100000 = true) : GivesD K σ H (tTup tr) (.tuple ds) := fun H0 s Q k =>
  h H0 s _ fun vs H1 s1 hvs => ⟨by rw [dxs_len hvs]; exact sz_le (Nat.le_of_ble_eq_true hl), fun p hp => k _ _ (s1.trans (same_new hp)) (.tup (SqT.of upd_same) (dxs_same (same_new hp) hvs))⟩
theorem gl_lst (h : GivesA K σ H tr ds) (hl : ds.length.ble 100000 = true) : GivesL K σ H (tLst tr) ds := fun H0 s Q k =>
  h H0 s _ fun vs H1 s1 hvs => ⟨by rw [dxs_len hvs]; exact sz_le (Nat.le_of_ble_eq_true hl), fun p hp => k _ _ _ (s1.trans (same_new hp)) upd_same (dxs_same (same_new hp) hvs)⟩
theorem gl_d (h : GivesL K σ H te ds) : GivesD K σ H te (.list ds) := fun H0 s Q k => h H0 s Q fun l xs H' s' hl hx => k _ _ s' (.lst (SqL.of hl) hx)
theorem gl_var {i : Nat} {l : Addr} {xs : List V} (e : σ[i]? = some (some (.ref l))) (hl : H l = some (.lst xs)) (hd : DxAll K H xs ds) : GivesL K σ H (tVar i) ds := fun H0 s Q h => ⟨.ref l, e, h l xs H0 (Same.refl _) (s _ _ hl) (dxs_same s hd)⟩
theorem gl_cat {ta tb : TE} (h1 : GivesL K σ H ta ds) (h2 : GivesL K σ H tb es) (hl : (ds.length + es.length).ble 100000 = true) : GivesL K σ H (tOp rCat ta tb) (ds ++ es) := fun H0 s Q k =>
  h1 H0 s _ fun l xs H1 s1 hl1 hx1 => h2 H1 (s.trans s1) _ fun b ys H2 s2 hb hy => ⟨l, b, xs, ys, rfl, rfl, s2 _ _ hl1, hb, by
    rw [dxs_len hx1, dxs_len hy]; exact sz_le (Nat.le_of_ble_eq_true hl), fun p hp => k p _ _ ((s1.trans s2).trans (same_new hp)) upd_same (dxs_same (same_new hp) (dxs_app (dxs_same s2 hx1) hy))⟩
theorem gl_asg {g : TG} {u : TS} {De : Ends} (h : GivesL K σ H te ds) (k : ∀ l xs H', Same H H' → H' l = some (.lst xs) → DxAll K H' xs ds → g (.ref l) σ H' (u De)) : tSeq (tAsg te g) u De σ H := h H (Same.refl _) _ k
end
theorem cut_mem {α : Type} {ds : List α} {lo hi : Option Int} : ∀ d ∈ cutL ds lo hi, d ∈ ds := fun d hd => by
  unfold cutL at hd
  exact List.mem_of_mem_drop (List.mem_of_mem_take hd)
theorem cutL_len {α : Type} (ds : List α) (lo hi : Option Int) : (cutL ds lo hi).length ≤ ds.length := by
  unfold cutL
  rw [List.length_take, List.length_drop]
  omega
section
variable {K : PySem.W.Frag} {σ : L2.St} {H : Hp} {ta tb : TE} {ds es : List PyData}
end
/-- elements that may stand in an order, at most n -/
def SmT (n : Nat) (ds : List PyData) : Prop := (∀ d ∈ ds, smallE d = true) ∧ ds.length ≤ n
theorem SmT.app {n m : Nat} {ds es : List PyData} (h : SmT n ds) (h' : SmT m es) : SmT (n + m) (ds ++ es) := ⟨fun d hd => (List.mem_append.mp hd).elim (h.1 d) (h'.1 d), by rw [List.length_append]; exact Nat.add_le_add h.2 h'.2⟩
theorem SmT.cut {n : Nat} {ds : List PyData} {lo hi : Option Int} (h : SmT n ds) : SmT n (cutL ds lo hi) := ⟨fun d hd => h.1 d (cut_mem d hd), Nat.le_trans (cutL_len _ _ _) h.2⟩
end TP

/-! any value as counts -/
namespace TP
open PySem PySem.Spec PyProof.Rows L2 LamX
theorem dxs_get' {K : PySem.W.Frag} {H : Hp} : ∀ {vs : List V} {ds : List PyData} {i : Nat} {d : PyData}, DxAll K H vs ds → ds[i]? = some d → ∃ v, vs[i]? = some v ∧ Dx K H v d
  | _, _, i, _, .nil, e => by simp at e
  | _, _, 0, _, .cons h _, e => by simp at e; subst e; exact ⟨_, rfl, h⟩
  | _, _, i + 1, d, .cons _ r, e => by
    obtain ⟨v, h1, h2⟩ := dxs_get' (i := i) r (by simpa using e)
    exact ⟨v, by simpa using h1, h2⟩
/-- F tells the first index that is none -/
abbrev Ver := List PyData → Option Nat
def verV (F : Ver) : PyData → V
  | .tuple ds => optV (F ds)
  | _ => .non
def verDue (F : Ver) : PyData → V
  | .tuple ds => match F ds with
    | none => .int (-1)
    | some i => .int (i : Nat)
  | _ => .non
def verD (F : Ver) : PyData → PyData
  | .tuple ds => match F ds with
    | none => .none
    | some i => .int (i : Nat)
  | _ => .none
def verOk (F : Ver) : PyData → Bool
  | .tuple ds => (F ds).isNone
  | _ => false
abbrev badF (m : Int) : Ver := fun ds => firstBad ds m
/-- counts, told by the check -/
theorem bad_inv {ds : List PyData} {m : Int} (h : firstBad ds m = none) : ∃ ps : Bag, ds = ps.map pairD ∧ BagOk ps ∧ ((ps.length : Int) ≤ m ∨ ps = []) := by
  unfold firstBad at h
  rw [List.find?_eq_none] at h
  have hi : ∀ i (hl : i < ds.length), ((i : Nat) : Int) < m ∧ runD ds[i] = true ∧ (0 < i → ltS (nmD (ds.getD (i - 1) .none)) (nmD ds[i])) := fun i hl => by
    have h0 := h i (List.mem_range.mpr hl)
    have h0 : badAt ds m i = false := by simpa using h0
    unfold badAt at h0
    have e : ds.getD i .none = ds[i] := by simp [List.getD, hl]
    rw [e, Bool.or_eq_false_iff, Bool.or_eq_false_iff] at h0
    obtain ⟨a, b, c⟩ := h0
    refine ⟨by have := of_decide_eq_false a; omega, by simpa using b, fun hp => ?_⟩
    rw [decide_eq_true hp, Bool.true_and] at c
    by_cases z : ltS (nmD (ds.getD (i - 1) .none)) (nmD ds[i])
    · exact z
    · rw [decide_eq_false z] at c; cases c
  obtain ⟨ps, rfl, hps⟩ := runs_of fun d hd => by
    obtain ⟨i, hl, rfl⟩ := List.mem_iff_getElem.mp hd
    exact (hi i hl).2.1
  refine ⟨ps, rfl, ⟨?_, fun p hp => (hps p hp).1, fun p hp => (hps p hp).2⟩, ?_⟩
  · have step : ∀ i (h1 : i + 1 < ps.length), ltS ps[i].1 ps[i + 1].1 := fun i h1 => by
      have h2 := (hi (i + 1) (by rw [List.length_map]; exact h1)).2.2 (by omega)
      have e1 : (ps.map pairD).getD (i + 1 - 1) .none = pairD ps[i] := by
        rw [Nat.add_sub_cancel]
        simp [List.getD, (show i < ps.length by omega)]
      rw [e1, List.getElem_map] at h2
      exact h2
    have all : ∀ (n i : Nat) (h1 : i + n + 1 < ps.length), ltS ps[i].1 ps[i + n + 1].1 := fun n => by
      induction n with
      | zero => exact fun i h1 => step i h1
      | succ n ih => exact fun i h1 => ltS_trans (ih i (by omega)) (step (i + n + 1) (by omega))
    rw [List.pairwise_iff_getElem]
    intro i j hi' hj hij
    have := all (j - i - 1) i (by omega)
    have e : i + (j - i - 1) + 1 = j := by omega
    simp only [e] at this
    exact this
  · by_cases z : ps.length = 0
    · exact .inr (List.length_eq_zero_iff.mp z)
    · have := (hi (ps.length - 1) (by rw [List.length_map]; omega)).1
      exact .inl (by omega)
/-- Summary(capacity, counts), of any values -/
def spInitX (K : PySem.W.Frag) : Sp := fun vs H Q E => ∃ (x dx : Addr) (v1 v2 : V) (d1 d2 : PyData), vs = [.ref x, v1, v2] ∧ H x = some (.ins (He.ga K "Summary") dx []) ∧ Dx K H v1 d1 ∧ Dx K H v2 d2 ∧ szD d2 = true ∧ (betD d1 1 8 = false → ∀ dd H', Same H H' → H' dd = some (.xd [("capacity", v1)]) → E (.ref (He.ga K "InvalidCapacity")) (some dd) H') ∧ (∀ c, d1 = .int c → 1 ≤ c → c ≤ 8 → (verOk (badF c) d2 = true → ∀ H', SameB x H H' → H' x = some (.ins (He.ga K "Summary") dx [("capacity", .int c), ("counts", v2)]) → Q .non H') ∧ (verOk (badF c) d2 = false → ∀ dd H', Same H H' → H' dd = some (.xd [("index", verV (badF c) d2)]) → E (.ref (He.ga K "InvalidSummary")) (some dd) H'))
theorem w_mkSumX {K : PySem.W.Frag} {H : Hp} {Q : VK} {sp : Sp} {js : List Nat} {dvs vs zs : List V} {v1 v2 : V} {d1 d2 : PyData} {E : XK} (hp : ∀ x, pick js ((V.ref x :: vs) ++ zs ++ dvs) = [.ref x, v1, v2]) (h1 : Dx K H v1 d1) (h2 : Dx K H v2 d2) (hz : szD d2 = true)
    (kC : betD d1 1 8 = false → ∀ dd H', Same H H' → H' dd = some (.xd [("capacity", v1)]) → E (.ref (He.ga K "InvalidCapacity")) (some dd) H')
    (k : ∀ c, d1 = .int c → 1 ≤ c → c ≤ 8 → (verOk (badF c) d2 = true → ∀ a dx H', Same H H' → H' a = some (.ins (He.ga K "Summary") dx [("capacity", .int c), ("counts", v2)]) → Q (.ref a) H') ∧ (verOk (badF c) d2 = false → ∀ dd H', Same H H' → H' dd = some (.xd [("index", verV (badF c) d2)]) → E (.ref (He.ga K "InvalidSummary")) (some dd) H'))
    (hsp : sp = spInitX K := by rfl) : MkG (He.ga K "Summary") sp js dvs vs zs H Q E := by
  subst hsp
  intro x dx hx hdx ne
  rw [hp x]
  have s1 : Same H (upd (upd H dx (.own x)) x (.ins (He.ga K "Summary") dx [])) := same_step (same_new hdx) (by rw [upd_ne ne.symm]; exact hx)
  refine ⟨x, dx, v1, v2, d1, d2, rfl, upd_same, dx_same s1 h1, dx_same s1 h2, hz, fun hb dd H' s hdd => kC hb dd H' (s1.trans s) hdd, fun c e c1 c8 => ?_⟩
  obtain ⟨k1, k2⟩ := k c e c1 c8
  exact ⟨fun ho H' sb e => ⟨rfl, k1 ho x dx H' (fun z o ez => sb z o (ne_of_none ez hx) (s1 z o ez)) e⟩, fun ho dd H' s hdd => k2 ho dd H' (s1.trans s) hdd⟩
/-- what is caught is a list of a word and of a value that is told of the heap -/
theorem w_caughtR {K : PySem.W.Frag} {T : List (Addr × Str)} {t : XK → TE} {σ : L2.St} {H : Hp} {Q : VK} (wd : Str) (R : V → Hp → Prop) (hT : Tabs T H) (main : ∀ l y H', ExtN H H' → Tabs T H' → H' l = some (.lst [.str wd, y]) → R y H' → Q (.ref l) H')
    (h : ∀ H1, ExtN H H1 → Tabs T H1 → ∀ Q' : VK, (∀ l y H', ExtN H H' → Tabs T H' → H' l = some (.lst [.str wd, y]) → R y H' → Q' (.ref l) H') → t (fun cls d H' => CaughtC K cls d H' Q') σ H1 (fun v H2 => LstC [.str "returned", v] H2 Q')) : tLam T (TCaught K) t σ H Q := ⟨hT, fun H1 x T1 => h H1 x T1 Q main⟩
/-! making inside lambdas: the written part told -/
section
variable {X : Cx} {CX : CXT} {k n : Nat} {C m q : Str} {st : Stmt} {dvs : List V} {ps ks : List Str} {js : List Nat} {sp : Sp} {E : XK} {p pos apos : Pos} {e o : Expr} {es : List Expr} {kws : List Keyword} {ta : TE} {t tk : TA} {fs : List Str}
end
end TP

namespace TP
open PySem PySem.Spec PyProof.Rows L2
abbrev emptyS (w : World) : Obj := { cls := .type "set", dict := none, data := .set #[] 0 (.fresh 0 0 (!w.params.followText "set-order")) }
/-! ### len(set(texts)) -/
/-- c different ones stand in the list -/
def Dst (xs : List Str) (c : Nat) : Prop := ∃ l : List Str, l.Nodup ∧ l.length = c ∧ ∀ k, k ∈ l ↔ k ∈ xs
theorem Dst.nil : Dst [] 0 := ⟨[], List.nodup_nil, rfl, fun _ => Iff.rfl⟩
theorem Dst.le {xs : List Str} {c : Nat} (h : Dst xs c) : c ≤ xs.length := by
  obtain ⟨l, nd, rfl, m⟩ := h
  exact nodup_sub_len nd fun k hk => (m k).1 hk
theorem Dst.old {xs : List Str} {c : Nat} {x : Str} (h : Dst xs c) (hx : x ∈ xs) : Dst (xs ++ [x]) c := by
  obtain ⟨l, nd, e, m⟩ := h
  refine ⟨l, nd, e, fun k => ?_⟩
  rw [m, List.mem_append, List.mem_singleton]
  exact ⟨.inl, fun z => z.elim id fun e => e ▸ hx⟩
theorem Dst.new {xs : List Str} {c : Nat} {x : Str} (h : Dst xs c) (hx : x ∉ xs) : Dst (xs ++ [x]) (c + 1) := by
  obtain ⟨l, nd, e, m⟩ := h
  refine ⟨x :: l, List.nodup_cons.mpr ⟨fun z => hx ((m x).1 z), nd⟩, by rw [List.length_cons, e], fun k => ?_⟩
  rw [List.mem_cons, m, List.mem_append, List.mem_singleton]
  exact Or.comm
section
variable {P : Program} {w : World} {A : Around} {E : Value → Shared → Prop} {s : Shared}
end
def tLenSetS (K : PySem.W.Frag) (ta : TE) : TE := fun σ H Q => ta σ H fun x H1 => ∃ l, ∃ xs : List Str, x = .ref l ∧ SqL K H1 l (xs.map V.str) ∧ xs.length ≤ 4000 ∧ ∀ c : Nat, Dst xs c → Q (.int c) H1
end TP

/-! any value as a merge plan -/
namespace TP
open PySem PySem.Spec PyProof.Rows L2 LamX
/-- the names of an order's runs -/
def ordNm : PyData → List Str
  | .tuple rs => rs.map nmD
  | _ => []
def noPlAt (ds : List PyData) (i : Nat) : Bool := decide (400 ≤ i) || (!orderD (ds.getD i .none) || decide (12 < (namesOf ((ds.take (i + 1)).flatMap ordNm)).length))
def firstPl (ds : List PyData) : Option Nat := (List.range ds.length).find? (noPlAt ds)
def planX : PyData → Bool
  | .tuple ds => (firstPl ds).isNone
  | _ => false
/-- a value that is asked as a merge plan -/
structure OddP (d : PyData) : Prop where
  sz : szD d = true
  shows : ShowsX d
  len : ∀ ds, d = .tuple ds → ds.length ≤ 5000
  row : ∀ ds rs, d = .tuple ds → .tuple rs ∈ ds → rs.length ≤ 5000
  big : ∀ rss : List Bag, d = .tuple (rss.map bagD) → (rss.map List.length).sum ≤ 4000 ∧ ∀ p ∈ rss.flatten, p.2 ≤ 10 ^ 90
/-! ### a comprehension of any values: the list that grows is hidden meanwhile -/
def listE (D : Addr) (acc : List V) : HO := .ext fun h => acc.length ≤ sizeLine ∧ ∃ (its : List Value) (n : Nat), Vals acc its ∧ h.get? D = some { cls := .type "list", data := .seq its.toArray n }
def tHideE (t : TE) : TE := fun σ H Q => ∃ d acc, H d = some (.lst acc) ∧ t σ (upd H d (listE d acc)) fun v H' => H' d = some (listE d acc) ∧ Q v (upd H' d (.lst acc))
/-- H's cells beside D stand in G -/
def BesD (D : Addr) (H G : Hp) : Prop := ∀ b o, b ≠ D → H b = some o → G b = some o
theorem rd_off {D a : Addr} {u : HO} {H G : Hp} (s : BesD D H G) (hD : a ≠ D) (h : Rd H a u) : Rd G a u := by
  rcases h with h | ⟨o, h⟩
  · exact .inl (s _ _ hD h)
  · exact .inr ⟨o, s _ _ hD h⟩
mutual
theorem dx_off {K : PySem.W.Frag} {D : Addr} {φ : Heap → Prop} {H G : Hp} (s : BesD D H G) (hD : H D = some (.ext φ)) : ∀ {v : V} {d : PyData}, Dx K H v d → Dx K G v d
  | _, _, .non => .non
  | _, _, .bl b => .bl b
  | _, _, .int i => .int i
  | _, _, .str x => .str x
  | _, _, .lst h r => .lst (h.imp (fun q => rd_off s (fun e => by subst e; rcases q with q | ⟨o, q⟩ <;> rw [hD] at q <;> cases q) q) id) (dxs_off s hD r)
  | _, _, .tup h r => .tup (h.imp (fun q => rd_off s (fun e => by subst e; rcases q with q | ⟨o, q⟩ <;> rw [hD] at q <;> cases q) q) id) (dxs_off s hD r)
  | _, _, .dct h => .dct (s _ _ (fun e => by rw [e, hD] at h; cases h) h)
theorem dxs_off {K : PySem.W.Frag} {D : Addr} {φ : Heap → Prop} {H G : Hp} (s : BesD D H G) (hD : H D = some (.ext φ)) : ∀ {vs : List V} {ds : List PyData}, DxAll K H vs ds → DxAll K G vs ds
  | _, _, .nil => .nil
  | _, _, .cons h r => .cons (dx_off s hD h) (dxs_off s hD r)
end
section
variable {J : It} {n : Nat} {G : Hp → Prop} {Y : Nat → Hp → V → Hp → Prop} {te : TE} {vs : List Nat} {σ : L2.St} {H1 : Hp} {D : Addr} {Q : VK}
end
end TP

/-! a comprehension of two fors: the runs of all orders -/
namespace TP
open PySem PySem.Spec PyProof.Rows L2 LamX
/-! ### values that are asked as merge plans -/
/-- an element: small, its runs few -/
def rowK (d : PyData) : Bool := szD d && (okX d && (decide (rbX d ≤ 20000) && (decide (d.depth ≤ 20) && match d with
  | .tuple rs => decide (rs.length ≤ 8) && rs.all fun r => match r with
    | .tuple [.str _, .int i] => decide (i ≤ 10 ^ 90)
    | _ => true
  | _ => true)))
/-- any written value, by looking -/
def wholeK (d : PyData) : Bool := szD d && (okX d && (decide (rbX d ≤ 16777216) && (decide (d.depth ≤ 60) && (topL d && match d with
  | .tuple ds => decide (ds.length ≤ 5000) && (decide ((ds.map fun r => match r with | .tuple rs => rs.length | _ => 0).sum ≤ 4000) && ds.all fun r => match r with
    | .tuple rs => decide (rs.length ≤ 5000) && rs.all fun q => match q with
      | .tuple [.str _, .int i] => decide (i ≤ 10 ^ 90)
      | _ => true
    | _ => true)
  | _ => true))))
/-! ### literals: backwards, as a list, from an index on -/
section
variable {K : PySem.W.Frag} {σ : L2.St} {H : Hp} {ta tb : TE} {ds es : List PyData}
end
/-! ### rows -/
/-! ### a tuple many times (more than 1000) -/
def rRepTB (K : PySem.W.Frag) : R2 := fun x y H Q => ∃ l k xs, x = .ref l ∧ y = .int k ∧ SqT K H l xs ∧ xs ≠ [] ∧ 2 ≤ k ∧ k ≤ 5000 ∧ xs.length ≤ 100 ∧ ∀ p, H p = none → Q (.ref p) (upd H p (.tup (List.replicate k.toNat xs).flatten))
section
variable {X : Cx}
end
end TP

/-! literals: a tuple of a comprehension over a text -/
namespace TP
open PySem PySem.Spec PyProof.Rows L2 LamX
section
variable {J : It} {n : Nat} {G : Hp → Prop} {Y : Nat → Hp → V → Hp → Prop} {g : TG} {te : TE} {vs : List Nat} {σ : L2.St} {H1 : Hp} {D : Addr} {Q : VK}
end
section
variable {K : PySem.W.Frag} {σ : L2.St} {H : Hp} {te elt : TE} {vs : List Nat} {j : Nat} {z : Str}
end
end TP

/-! the errors of slots -/
namespace TP
open PySem PySem.Spec PyProof.Rows L2 LamX
def spInitRX (K : PySem.W.Frag) : Sp := fun vs H Q E => ∃ (x dx : Addr) (v1 v2 : V) (d1 d2 : PyData), vs = [.ref x, v1, v2] ∧ H x = some (.ins (He.ga K "Replacing") dx []) ∧ Dx K H v1 d1 ∧ Dx K H v2 d2 ∧ szD d2 = true ∧ (betD d1 2 9 = false → ∀ dd H', Same H H' → H' dd = some (.xd [("slots", v1)]) → E (.ref (He.ga K "InvalidSlots")) (some dd) H') ∧ (∀ c, d1 = .int c → 2 ≤ c → c ≤ 9 → (verOk (badF c) d2 = true → ∀ H', SameB x H H' → H' x = some (.ins (He.ga K "Replacing") dx [("slots", .int c), ("counts", v2)]) → Q .non H') ∧ (verOk (badF c) d2 = false → ∀ dd H', Same H H' → H' dd = some (.xd [("index", verV (badF c) d2)]) → E (.ref (He.ga K "InvalidSummary")) (some dd) H'))
/-! ### == of lists: of unequal lengths, or of one text each -/
def rEqR : R2 := fun x y H Q => ∃ a b xs ys, x = .ref a ∧ y = .ref b ∧ H a = some (.lst xs) ∧ H b = some (.lst ys) ∧ ((xs.length ≠ ys.length ∧ Q (.bl false) H) ∨ ∃ s t : Str, xs = [.str s] ∧ ys = [.str t] ∧ PyData.strOk s = true ∧ PyData.strOk t = true ∧ Q (.bl (decide (s = t))) H)
/-! ### readings that give some data of a kind -/
def GivesP (K : PySem.W.Frag) (σ : L2.St) (H : Hp) (te : TE) (P : PyData → Prop) : Prop := ∀ H0, Same H H0 → ∀ Q : VK, (∀ v d H', Same H0 H' → Dx K H' v d → P d → Q v H') → te σ H0 Q
def GivesAP (K : PySem.W.Frag) (σ : L2.St) (H : Hp) (tr : TA) (P : List PyData → Prop) : Prop := ∀ H0, Same H H0 → ∀ Q : List V → Hp → Prop, (∀ vs ds H', Same H0 H' → DxAll K H' vs ds → P ds → Q vs H') → tr σ H0 Q
def GivesLP (K : PySem.W.Frag) (σ : L2.St) (H : Hp) (te : TE) (P : List PyData → Prop) : Prop := ∀ H0, Same H H0 → ∀ Q : VK, (∀ l xs ds H', Same H0 H' → H' l = some (.lst xs) → DxAll K H' xs ds → P ds → Q (.ref l) H') → te σ H0 Q
section
variable {K : PySem.W.Frag} {σ : L2.St} {H : Hp} {te ta tb : TE} {tr : TA} {d : PyData} {ds es : List PyData} {P P2 : PyData → Prop} {R R2 : List PyData → Prop}
end
/-! ### enumerate of a text -/
def IteS (x : Str) : It :=
  ⟨fun i _ => i < x.cps.size, fun i H v H' => ∃ T c, v = .ref T ∧ H T = none ∧ x.cps[i]? = some c ∧ H' = upd H T (.tup [.int (i : Nat), .str ⟨#[c]⟩]), fun i _ => i = x.cps.size⟩
def iEnumS (ta : TA) : TI := fun σ H R => ta σ H fun vs H1 => ∃ x, vs = [.str x] ∧ R (IteS x) H1
/-! ### values that are shown beside a word -/
def smO (d : PyData) : Bool := szD d && (okX d && (decide (rbX d ≤ 4000) && (decide (d.depth ≤ 20) && (!d.hasDict || noL d))))
/-! ### the first place where a tuple goes wrong -/
/-- a value and an index, as a list -/
def PairL (F : PyData → Prop) (G : PyData → PyData → Prop) (e : PyData) : Prop := ∃ x i, e = .list [x, i] ∧ F x ∧ G x i
/-! ### slots: what is asked and what is due (k51) -/
def askE (i : Int) (d0 d1 d2 d3 d4 : PyData) (v0 v2 v3 : V) : Option (Str × Str × V) :=
  if i < 2 then (match d0 with
    | .int c => if betD (.int c) 2 9 = false then some ("InvalidSlots", "slots", v0) else if verOk (badF c) d1 = false then some ("InvalidSummary", "index", verV (badF c) d1) else none
    | _ => some ("InvalidSlots", "slots", v0))
  else if i < 6 then (if nameD d2 = false then some ("InvalidName", "name", v2) else if i < 4 ∧ fromD d3 1 = false then some ("InvalidTimes", "times", v3) else none)
  else if orderD d4 = false then some ("InvalidOrder", "index", ordV d4) else none
def firstE (i : Int) (b0 b1 b2 b3 b4 : Bool) (v0 v2 v3 e0 e1 : V) : List V :=
  if i < 2 then if b0 = true then [.str "slots", v0] else if b1 = true then [.str "summary", e0] else [.str "returned"]
  else if i < 6 then if b2 = true then [.str "name", v2] else if b3 = true ∧ i < 4 then [.str "times", v3] else [.str "returned"]
  else if b4 = true then [.str "order", e1] else [.str "returned"]
structure GivE (c : Int) (b0 b1 b2 b3 b4 : Bool) (d0 d1 d2 d3 d4 : PyData) (e0 e1 : V) : Prop where
  c2 : 2 ≤ c
  c9 : c ≤ 9
  h0 : b0 = true → betD d0 2 9 = false
  g0 : b0 = false → d0 = .int c
  h1 : b1 = true → verOk (badF c) d1 = false ∧ verV (badF c) d1 = e0
  g1 : b1 = false → verOk (badF c) d1 = true
  h2 : b2 = true → nameD d2 = false
  g2 : b2 = false → nameD d2 = true
  h3 : b3 = true → fromD d3 1 = false
  g3 : b3 = false → fromD d3 1 = true
  h4 : b4 = true → orderD d4 = false ∧ ordV d4 = e1
  g4 : b4 = false → orderD d4 = true
end TP

/-! repr of lists in which objects of the program stand -/
namespace TP
open PySem PySem.Spec PyProof.Rows L2 LamX
/-! ### a def that is called whatever reprs are under way -/
structure FnA (P : Program) (w : World) (K : PySem.W.Frag) (mg : Str → Option Value) (base : Heap) (CX : CXT) (k : Nat) (f : Addr) (fd : FuncData) (ps : List Str) (sp : Sp) : Prop where
  len : ∀ vs H Q E, sp vs H Q E → vs.length = ps.length
  run : ∀ (A : Around) (outer : List Env) (s : Shared) (H : Hp) (args : Args) (us : List Value) (vs : List V) (Q : VK) (E : XK), Room k A →
    Env0 P w K mg base A outer s H → BindsTo s fd args (ps.zip us) → Vals vs us → sp vs H Q E → codeAny (model P w) A (.call (.ref f) args) (CR CX outer P w H s Q E) s
theorem fnA_of {CX : CXT} {P : Program} {w : World} {K : PySem.W.Frag} {mg : Str → Option Value} {base : Heap} {k : Nat} {f : Addr} {x qual : Str} {params : Arguments} {body : List Stmt} {scope : Scope} {dvs : List V} {kws : List (Str × V)} {fd : FuncData} {N ps : List Str} {sp : Sp}
    (F : FunD K x qual params body scope dvs kws f fd) (S : FnScope N ps scope) (len : ∀ vs H Q E, sp vs H Q E → vs.length = ps.length)
    (hbody : ∀ (cdv : Value) (A : Around) (outer : List Env) (s : Shared) (H : Hp) (vs : List V) (Q : VK) (E : XK), Room k (A.deeper (envOfC qual scope s.heap.objs.size f cdv)) → sp vs H Q E →
      ∃ t, PSs (cxOf CX P w K mg base N qual scope f cdv A outer s H E) body t ∧ t { nx := fun _ H' => Q .non H', rt := Q } (L2.start N vs) H) :
    FnA P w K mg base CX (k + 1) f fd ps sp := by
  obtain ⟨oc, od, dV, kV, doc, pm, an, cdv, ct, osl, rfl, lk, hcd, _, _⟩ := F.ex
  refine ⟨len, fun A outer s H args us vs Q E hr e0 hb r hsp => ?_⟩
  have hl := len _ _ _ _ hsp
  have kx : K.In s.heap := e0.mod.kin.keeps fun b o e => (e0.bs b o e).1
  have nl : s.heap.NoLimit := e0.mod.nolimit.keeps fun b o e => (e0.bs b o e).1
  refine codeAny_call_function hr.depth (kx _ _ lk) rfl S.co S.gen rfl (PySem.W.codeRec_of kx hcd) (hb _ _ _ _ ?_)
  refine wpAny_newFunctionEnv_cells S.kind (fun ⟨n, v⟩ hy => by
    rcases S.par n (List.of_mem_zip hy).1 with q | q
    · exact .inl q
    · exact .inr ⟨q, PySem.W.cellsFrom_some _ _ _ (.inl q)⟩) fun env he s1 ic => ?_
  subst he
  refine ⟨nl.keeps ic.toInCall.keep, codeAny_func ?_⟩
  obtain ⟨t, ht, hq⟩ := hbody cdv A outer s H vs Q E (hr.deeper _) hsp
  have I0 := inv_start (CX := CX) (E := E) S hr.hd e0 hl r ic
  refine wpAny_mono (ht.run [] s1 (L2.start N vs) H _ I0 hq) (fun fl s' hs => ?_) fun e s' hs => hs
  cases fl with
  | ret u =>
    obtain ⟨v, σ', H', J, rv, q⟩ := hs
    exact ⟨v, H', J.os, J.bare, J.base, J.hok, rv, q⟩
  | next =>
    obtain ⟨σ', H', J, q⟩ := hs
    exact ⟨.non, H', J.os, J.bare, J.base, J.hok, rfl, q⟩
  | brk =>
    obtain ⟨_, _, _, q⟩ := hs
    exact q.elim
  | cont =>
    obtain ⟨_, _, _, q⟩ := hs
    exact q.elim
structure HasA (P : Program) (w : World) (K : PySem.W.Frag) (mg : Str → Option Value) (base : Heap) (CX : CXT) (k : Nat) (x : Str) (st : Stmt) (ps : List Str) (sp : Sp) : Prop where
  ex : ∃ fd, FunD K x x (defArgs st) (defBody st) (defScope st) [] [] (He.ga K x) fd ∧ FnA P w K mg base CX k (He.ga K x) fd ps sp
  glo : mg x = some (.ref (He.ga K x))
structure HasMA (P : Program) (w : World) (K : PySem.W.Frag) (mg : Str → Option Value) (base : Heap) (CX : CXT) (k : Nat) (C m q : Str) (st : Stmt) (dvs : List V) (ps : List Str) (sp : Sp) : Prop where
  ex : ∃ fd, FunD K m q (defArgs st) (defBody st) (defScope st) dvs [] (He.ma K (He.ga K C) m) fd ∧ FnA P w K mg base CX k (He.ma K (He.ga K C) m) fd ps sp
  mt : Meth K (He.ga K C) m (He.ma K (He.ga K C) m)
section
variable {P : Program} {w : World} {K : PySem.W.Frag} {mg : Str → Option Value} {base : Heap} {CX : CXT} {k : Nat} {x C m q : Str} {st : Stmt} {dvs : List V} {N ps : List Str} {sp : Sp}
theorem Dfd.hasA (D : Dfd K mg x st) (S : FnScope N ps (defScope st)) (len : ∀ vs H Q E, sp vs H Q E → vs.length = ps.length)
    (hbody : ∀ (cdv : Value) (A : Around) (outer : List Env) (s : Shared) (H : Hp) (vs : List V) (Q : VK) (E : XK), Room k (A.deeper (envOfC x (defScope st) s.heap.objs.size (He.ga K x) cdv)) → sp vs H Q E →
      ∃ t, PSs (cxOf CX P w K mg base N x (defScope st) (He.ga K x) cdv A outer s H E) (defBody st) t ∧ t { nx := fun _ H' => Q .non H', rt := Q } (L2.start N vs) H) :
    HasA P w K mg base CX (k + 1) x st ps sp := by
  obtain ⟨fd, F⟩ := D.ex
  exact ⟨⟨fd, F, fnA_of F S len hbody⟩, D.glo⟩
theorem DfdM.hasA (D : DfdM K C m q st dvs) (S : FnScope N ps (defScope st)) (len : ∀ vs H Q E, sp vs H Q E → vs.length = ps.length)
    (hbody : ∀ (cdv : Value) (A : Around) (outer : List Env) (s : Shared) (H : Hp) (vs : List V) (Q : VK) (E : XK), Room k (A.deeper (envOfC q (defScope st) s.heap.objs.size (He.ma K (He.ga K C) m) cdv)) → sp vs H Q E →
      ∃ t, PSs (cxOf CX P w K mg base N q (defScope st) (He.ma K (He.ga K C) m) cdv A outer s H E) (defBody st) t ∧ t { nx := fun _ H' => Q .non H', rt := Q } (L2.start N vs) H) :
    HasMA P w K mg base CX (k + 1) C m q st dvs ps sp := by
  obtain ⟨fd, F⟩ := D.ex
  exact ⟨⟨fd, F, fnA_of F S len hbody⟩, D.mt⟩
end
section
variable {P : Program} {w : World} {K : PySem.W.Frag} {mg : Str → Option Value} {base : Heap} {CX : CXT} {k : Nat} {x C m q : Str} {st : Stmt} {dvs : List V} {ps : List Str} {sp : Sp}
theorem HasA.has (h : HasA P w K mg base CX k x st ps sp) : Has P w K mg base CX k x st ps sp := by
  obtain ⟨⟨fd, F, G⟩, g⟩ := h
  exact ⟨⟨fd, F, G.len, fun A outer s H args us vs Q E hr _ => G.run A outer s H args us vs Q E hr⟩, g⟩
end
section
variable {X : Cx} {CX : CXT} {k : Nat} {f : Addr} {fd : FuncData} {ps : List Str} {sp : Sp} {E : XK} {x : Str} {st : Stmt} {p pos : Pos} {e : Expr} {es : List Expr} {t : TA}
theorem runA {pins : List (Addr × Obj)} {σ : L2.St} {H : Hp} {s : Shared} {Q : VK} {us : List Value} {args : Args} {vs : List V} (F : FnA X.prog X.w X.K X.mg X.base CX k f fd ps sp) (hr : Room k X.A) (hx : Passes CX X E)
    (I : Inv X pins σ H s) (r : Vals vs us) (hb : BindsTo s fd args (ps.zip us)) (h : sp vs H Q E) : wpAny (model X.prog X.w) X.A (call (.ref f) args.pos args.kw) (EP X pins σ Q) X.xe s := by
  refine wpAny_call (codeAny_mono (F.run X.A X.stack s H args us vs Q E hr I.env0 hb r h) fun z s' hq => ?_)
  cases z with
  | error e => exact hx pins σ H s e s' I hq
  | ok fl =>
    cases fl with
    | ret u => exact I.after hq
    | next => exact hq.elim
    | brk => exact hq.elim
    | cont => exact hq.elim
theorem pe_fnA (F : HasA X.prog X.w X.K X.mg X.base CX k x st ps sp) (hb : PosB x st ps) (hr : Room k X.A) (hgl : Gl X x) (hx : Passes CX X E)
    (ha : PA X (e :: es) t) (hdb : (x == ("__debug__" : Str)) = false := by decide) (he : starEach (e :: es) X.env = (false, eval e X.env) :: starEach es X.env := by rfl)
    (hpl : (backTo pos (starEach es X.env)).any (·.1) = false := by rfl) : PE X (.Call (.Name x p) (e :: es) [] pos) (tCall sp [] E t) := by
  obtain ⟨fd, FD, G⟩ := F.ex
  refine ⟨fun pins s σ H Q I h => ?_⟩
  refine wpAny_Call_Name_kw (ld_glob I hgl F.glo ?_ hdb)
  refine PySem.W.callWith_K (h₀ := X.base) I.ok.mod.kin FD.kp (thn (ha.run pos pins s σ H _ I h) fun us s1 ⟨vs, H1, I1, r, q⟩ => ⟨I1.kIn, ?_⟩) he hpl
  have q2 : sp vs H1 Q E := by rw [← List.append_nil vs]; exact q
  obtain ⟨kV, doc, pm, an, cdv, ct, rfl⟩ := FunD.noDef FD
  exact runA (args := ⟨us, []⟩) G hr hx I1 r (.of_eq (hb kV doc pm an cdv ct us (by rw [← r.length]; exact G.len _ _ _ _ q2))) q2
/-- what an own object's repr is asked inside another repr -/
theorem under_own {K : PySem.W.Frag} {A : Around} {s : Shared} {Er : Value → Shared → Prop} {Q : Value → Shared → Prop} {base : Nat} {a C g : Addr} {ox : Obj} {od : Option Obj} (hu : A.units < cLine) (kx : K.In s.heap) (I : PySem.W.InstAt s.heap a ox C od)
    (hs : PySem.W.findIn K (.ref C) "__repr__" = some (some (.ref g))) (hf : PySem.W.isFn K (.ref g) = true) (h : wpAny (model X.prog X.w) A (call (.ref g) [.ref a]) (PySem.W.StrBack Q) Er s) :
    wpAny (model X.prog X.w) A (pyReprObjUnder base (.ref a)) (fun v s' => ∃ x u, v = .str x u ∧ Q v s') Er s := by
  unfold pyReprObjUnder pyReprObjBy
  refine wpAny_bind (wpAny_cRoomFor hu ?_)
  refine wpAny_bind (wpAny_bind (I.type.here ((PySem.W.looks_findIn kx hs).here ?_)))
  show wpAny _ _ (if (some (Value.ref g)).isNone = true then _ else _) _ _ _
  rw [if_neg (by simp)]
  have fin : wpAny (model X.prog X.w) A (call (.ref g) ([.ref a] ++ []) >>= fun v => pure (some v)) (fun o s' => ∃ x u, o = some (.str x u) ∧ Q (.str x u) s') Er s :=
    wpAny_bind (wpAny_mono h (fun v s' h' => wpAny_pure (by cases v <;> first | exact h'.elim | exact ⟨_, _, rfl, h'⟩)) fun _ _ h' => h')
  refine wpAny_bind (wpAny_mono (Q := fun o s' => ∃ x u, o = some (.str x u) ∧ Q (.str x u) s') (E := Er) ?_ (fun o s' ho => ?_) fun _ _ h' => h')
  · simp only [callSpecialIfBoundBy?, bindSpecialIfBound?]
    refine wpAny_holding (wpAny_bind (wpAny_bind (wpAny_bind (I.type.here ((PySem.W.looks_findIn kx hs).here ?_)))))
    refine wpAny_bind (wpAny_askSetting (wpAny_ite ?_))
    have bf := PySem.W.bind_fn (M := model X.prog X.w) kx (.ref a) (beq_iff_eq.mp hf)
    split
    · exact wpAny_bind (bf.here (wpAny_pure (by exact fin)))
    · exact wpAny_tryCatch (wpAny_bind (bf.here (wpAny_pure (by exact fin))))
  · obtain ⟨x, u, rfl, hq⟩ := ho
    exact wpAny_bind (wpAny_isInstance (typeIs_str _ _ _) isSubtype_str_str (wpAny_pure ⟨_, _, rfl, hq⟩))
end
/-! ### values in which own objects stand, and what they show -/
mutual
/-- v is shown as t; lists stand so deep in it -/
inductive Sv (RS : Hp → V → Str → Prop) (H : Hp) : V → Str → Nat → Prop
  | non : Sv RS H .non "None" 0
  | bl (b : Bool) : Sv RS H (.bl b) (if b = true then "True" else "False") 0
  | int (i : Int) : i.natAbs.log2 < 1920 → Sv RS H (.int i) (toString i) 0
  | str (x : Str) : (reprText x).length ≤ sizeLine → Sv RS H (.str x) (reprText x) 0
  | own {v : V} {t : Str} : RS H v t → Sv RS H v t 0
  | dct {a : Addr} : H a = some (.dK []) → Sv RS H (.ref a) (dictText []) 0
  | lst {a : Addr} {xs : List V} {ts : List Str} {d : Nat} : H a = some (.lst xs) → SvAll RS H xs ts d → Sv RS H (.ref a) (listText ts) (d + 1)
inductive SvAll (RS : Hp → V → Str → Prop) (H : Hp) : List V → List Str → Nat → Prop
  | nil : SvAll RS H [] [] 0
  | cons {v : V} {t : Str} {xs : List V} {ts : List Str} {d e : Nat} : Sv RS H v t d → SvAll RS H xs ts e → SvAll RS H (v :: xs) (t :: ts) (max d e)
end
section
variable {RS : Hp → V → Str → Prop} {H H' : Hp}
mutual
theorem sv_same (s : Same H H') (hR : ∀ v t, RS H v t → RS H' v t) : ∀ {v : V} {t : Str} {d : Nat}, Sv RS H v t d → Sv RS H' v t d
  | _, _, _, .non => .non
  | _, _, _, .bl b => .bl b
  | _, _, _, .int i h => .int i h
  | _, _, _, .str x h => .str x h
  | _, _, _, .own h => .own (hR _ _ h)
  | _, _, _, .dct h => .dct (s _ _ h)
  | _, _, _, .lst h r => .lst (s _ _ h) (svs_same s hR r)
theorem svs_same (s : Same H H') (hR : ∀ v t, RS H v t → RS H' v t) : ∀ {xs : List V} {ts : List Str} {d : Nat}, SvAll RS H xs ts d → SvAll RS H' xs ts d
  | _, _, _, .nil => .nil
  | _, _, _, .cons h r => .cons (sv_same s hR h) (svs_same s hR r)
end
theorem svs_len : ∀ {xs : List V} {ts : List Str} {d : Nat}, SvAll RS H xs ts d → ts.length = xs.length
  | _, _, _, .nil => rfl
  | _, _, _, .cons _ r => by simp [svs_len r]
variable (hx : ∀ a t xs, RS H (.ref a) t → H a ≠ some (.lst xs))
include hx
mutual
/-- the depth is told by the value -/
theorem sv_deep : ∀ {v : V} {t t' : Str} {d d' : Nat}, Sv RS H v t d → Sv RS H v t' d' → d = d'
  | _, _, _, _, _, .non, h => by cases h <;> rfl
  | _, _, _, _, _, .bl b, h => by cases h <;> rfl
  | _, _, _, _, _, .int i _, h => by cases h <;> rfl
  | _, _, _, _, _, .str x _, h => by cases h <;> rfl
  | _, _, _, _, _, .own h1, h => by
    cases h with
    | lst h2 _ => exact absurd h2 (hx _ _ _ h1)
    | _ => rfl
  | _, _, _, _, _, .dct h1, h => by
    cases h with
    | lst h2 _ => rw [h1] at h2; cases h2
    | _ => rfl
  | _, _, _, _, _, .lst h1 r1, h => by
    cases h with
    | own h2 => exact absurd h1 (hx _ _ _ h2)
    | dct h2 => rw [h1] at h2; cases h2
    | lst h2 r2 =>
      rw [h1] at h2
      cases h2
      exact congrArg (· + 1) (svs_deep r1 r2)
theorem svs_deep : ∀ {xs : List V} {ts ts' : List Str} {d d' : Nat}, SvAll RS H xs ts d → SvAll RS H xs ts' d' → d = d'
  | _, _, _, _, _, .nil, h => by cases h; rfl
  | _, _, _, _, _, .cons h1 r1, h => by
    cases h with
    | cons h2 r2 => rw [sv_deep h1 h2, svs_deep r1 r2]
end
end
end TP
namespace TP
open PySem PySem.Spec PyProof.Rows L2 LamX
open Builtin Builtin.List
/-- of the lists of depth at most d none is under way -/
def ClrS (RS : Hp → V → Str → Prop) (H0 : Hp) (g : List Code) (d : Nat) : Prop := ∀ a t e, e ≤ d → Sv RS H0 (.ref a) t e → Clear g a
/-- inside another repr, v gives the text t -/
def Els (X : Cx) (RS : Hp → V → Str → Prop) (H0 : Hp) (k : Nat) (v : V) (t : Str) (d : Nat) : Prop := ∀ (pins : List (Addr × Obj)) (σ : L2.St) (H : Hp) (s : Shared) (u : Value) (base : Nat) (A : Around) (g : List Code) (E : Value → Shared → Prop) (Q : Str → Shared → Prop),
  Same H0 H → Inv X pins σ H s → RelV v u → base + t.length ≤ sizeLine → A.guards = some g → ClrS RS H0 g d → A.frames = X.A.frames → Room (k + d) A → (∀ H' s', Same H H' → Inv X pins σ H' s' → Q t s') → wpAny (model X.prog X.w) A (pyReprUnder base u) Q E s
theorem ClrS.le {RS : Hp → V → Str → Prop} {H0 : Hp} {g : List Code} {d e : Nat} (h : ClrS RS H0 g d) (he : e ≤ d) : ClrS RS H0 g e := fun a t e' h1 h2 => h a t e' (Nat.le_trans h1 he) h2
/-- what stands around the loop's elements -/
def inLoop (A : Around) (args : Args) : Around := A.under (.builtin "list.__repr__.loop" args)
theorem inLoop_frames {A : Around} {args : Args} (h : A.frames ≠ none) : (inLoop A args).frames = A.frames := by
  cases e : A.frames with
  | none => exact absurd e h
  | some l =>
    have q : (Code.builtin "list.__repr__.loop" args).isFrame = false := rfl
    simp [inLoop, Around.under, Code.envs, pushEnvs, e, q, Code.frames]
theorem inLoop_room {A : Around} {args : Args} {k : Nat} (h : Room (k + 1) A) : Room k (inLoop A args) := by
  refine ⟨h.hd, ?_, ?_⟩
  · have h1 := h.dp
    show (A.under (.builtin "list.__repr__.loop" args)).depth + 3 * k + 5 < _
    have : (A.under (.builtin "list.__repr__.loop" args)).depth ≤ A.depth + 1 := by
      simp [Around.under, Code.weight, Code.isCreation, Code.isGuard, Code.isCaller, Code.frames, Code.isFrame, guardIds]
    omega
  · have h1 := h.un
    show (A.under (.builtin "list.__repr__.loop" args)).units + 16 * k + 200 < _
    rw [units_under_list_loop]
    omega
section
variable {X : Cx} {RS : Hp → V → Str → Prop} {H0 : Hp} {k : Nat}
theorem loopO {A : Around} {g : List Code} {a P : Addr} {xs : List V} {ts : List Str} {d base : Nat} {pins : List (Addr × Obj)} {σ : L2.St} {R : Result → Shared → Prop} {Hs : Hp} (h0 : H0 a = some (.lst xs)) (hs0 : Same H0 Hs) (hne : a ≠ P) (hg : A.guards = some g) (hcl : ∀ rest kw, ClrS RS H0 (.builtin "list.__repr__.loop" ⟨.ref a :: rest, kw⟩ :: g) d)
    (hf : A.frames = X.A.frames) (hr : Room (k + d + 1) A) (hlen : ts.length = xs.length) (hT : ∀ (i : Nat) (v : V), xs[i]? = some v → ∃ t e, ts[i]? = some t ∧ e ≤ d ∧ Els X RS H0 k v t e) (hsz : base + (listText ts).length ≤ sizeLine)
    (hR : ∀ H' s' u, Same Hs H' → Inv X pins σ H' s' → R (.ok (.ret (.str (listText ts) u))) s') :
    ∀ (m i : Nat) (H : Hp) (s : Shared) (acc : Array Value) (c : Nat) (done : List (Str × Tok)), xs.length - i = m → i ≤ xs.length → Same Hs H → Inv X pins σ H s → FpOk X pins H P →
      s.heap.get? P = some { cls := .type "list", dict := none, data := .seq acc c, slots := #[] } → acc.toList = strValues done → done.map (·.1) = ts.take i →
      codeAny (model X.prog X.w) A (.builtin "list.__repr__.loop" ⟨[.ref a, rawInt i, .ref P, rawInt ((base + piled (ts.take i) : Nat) : Int)], []⟩) R s := by
  have hX : (listText ts).length = (textFrom 0 "[" ts).length + 1 := by
    show (textFrom 0 "[" ts ++ "]").length = _
    rw [strLen_append]
    rfl
  have hL := textFrom_len ts 0 "["
  have z1 : ts.length ≤ sizeLine := by
    have q := hL.1
    rw [if_neg (Nat.lt_irrefl 0)] at q
    omega
  have z3 := piled_le_listText ts
  intro m
  induction m with
  | zero =>
    intro i H s acc c done hm hi hs I hP hPo hacc hdone
    obtain ⟨its, rv, ⟨o, n, ho, _, _, hd⟩, _⟩ := I.list (SqL.of (hs _ _ (hs0 _ _ h0)))
    have el := rv.length
    refine codeAny_builtin F.entry_list_repr_loop ?_
    show wpAny _ _ («list.__repr__.loop» ⟨[.ref a, .int i 0, .ref P, .int ((base + piled (ts.take i) : Nat) : Int) 0], []⟩) _ _ s
    rw [repr_loop_tree]
    refine wpAny_bind (wpAny_listItems ho hd ?_)
    have e0 : its.toArray[(i : Int).toNat]? = none := by
      rw [Int.toNat_natCast, List.getElem?_toArray]
      exact List.getElem?_eq_none (by omega)
    simp only [e0]
    unfold reprEnd
    refine wpAny_bind (wpAny_listItems hPo rfl ?_)
    rw [hacc, repr_fold]
    refine wpAny_bind (wpAny_pure ?_)
    rw [show done.map (·.1) = ts by rw [hdone]; exact List.take_of_length_le (by omega)]
    refine wpAny_bind (wpAny_mkStr (wpAny_pure ?_) (show (listText ts).length ≤ sizeLine by omega))
    exact hR H _ _ hs (I.tok _)
  | succ m ih =>
    intro i H s acc c done hm hi hs I hP hPo hacc hdone
    have hlt : i < xs.length := by omega
    obtain ⟨its, rv, ⟨o, n, ho, _, _, hd⟩, _⟩ := I.list (SqL.of (hs _ _ (hs0 _ _ h0)))
    have el := rv.length
    have hit : i < its.length := by omega
    obtain ⟨t, e, ht, he, hel⟩ := hT i xs[i] (List.getElem?_eq_getElem hlt)
    have p1 := piled_take_succ ht
    have p2 := piled_take_le ts (i + 1)
    have rx : RelV xs[i] its[i] := by
      obtain ⟨u, e1, e2⟩ := Vals.get rv (List.getElem?_eq_getElem hlt)
      rw [List.getElem?_eq_getElem hit] at e1
      rw [Option.some.inj e1]
      exact e2
    refine codeAny_builtin F.entry_list_repr_loop ?_
    show wpAny _ _ («list.__repr__.loop» ⟨[.ref a, .int i 0, .ref P, .int ((base + piled (ts.take i) : Nat) : Int) 0], []⟩) _ _ s
    rw [repr_loop_tree]
    refine wpAny_bind (wpAny_listItems ho hd ?_)
    have e0 : its.toArray[(i : Int).toNat]? = some its[i] := by
      rw [Int.toNat_natCast, List.getElem?_toArray]
      exact List.getElem?_eq_getElem hit
    simp only [e0]
    rw [Int.toNat_natCast]
    have Ip := I.pinned (fp := [P]) (fun b hb => by rw [List.mem_singleton.mp hb]; exact hP) fun b hb => by rw [List.mem_singleton.mp hb]; exact ⟨_, hPo, nofun⟩
    refine wpAny_bind (wpAny_holding (hel (pins ++ pinsAt [P] s.heap) σ H s its[i] (base + piled (ts.take i) + 1) (inLoop A _) _ _ _ (hs0.trans hs) Ip rx (by omega) (guards_under_guard (isGuard_list_loop _) hg) ?_ ((inLoop_frames ?_).trans hf) ?_ fun H' s' hs' I' => ?_))
    · exact (hcl _ _).le he
    · rw [hf, I.ok.frames]; nofun
    · exact inLoop_room (hr.mono (by omega))
    obtain ⟨q1, q2, _⟩ := I'.pin (P, _) (List.mem_append_right _ (List.mem_append_right _ (mem_pinsAt (List.mem_singleton.mpr rfl) hPo)))
    have I2 := I'.unpinned
    have hP' : FpOk X pins H' P := ⟨q2, hP.2⟩
    refine wpAny_bind (wpAny_mkStr ?_ (by omega))
    refine wpAny_bind ?_
    show wpAny _ _ (updateSeq P _) _ _ _
    have za : acc.size ≤ sizeLine := by
      have w1 : acc.toList.length = acc.size := by simp
      have w2 : (strValues done).length = done.length := by simp [strValues]
      have w3 : done.length = (ts.take i).length := by rw [← hdone, List.length_map]
      have w4 : (ts.take i).length ≤ i := by rw [List.length_take]; omega
      rw [hacc] at w1
      omega
    refine wpAny_updateSeq q1 rfl (wpAny_pure ⟨F.quiet_list_repr_loop _, ?_⟩) za
    have w5 : ((i : Int) + 1) = ((i + 1 : Nat) : Int) := by omega
    have w6 : base + piled (ts.take i) + (t.length + 2) = base + piled (ts.take (i + 1)) := by omega
    rw [w5, w6]
    refine ih (i + 1) H' _ (acc.push (.str t s'.toks)) _ (done ++ [(t, s'.toks)]) (by omega) hlt (hs.trans hs') ((I2.tok _).turnedL (ch := [P]) (fun b o hb q => (Heap.get?_update_other _ _ (fun z => hb (by rw [z]; exact List.mem_singleton.mpr rfl))).trans q) fun b hb => by rw [List.mem_singleton.mp hb]; exact hP') hP' (Heap.get?_update_self _ q1 rfl) ?_ ?_
    · simp [hacc, strValues]
    · rw [List.map_append, hdone, List.take_succ, ht]; rfl
theorem listO {A : Around} {g : List Code} {a : Addr} {xs : List V} {ts : List Str} {d base : Nat} {pins : List (Addr × Obj)} {σ : L2.St} {R : Result → Shared → Prop} {H : Hp} {s : Shared} (hx : ∀ a t xs, RS H0 (.ref a) t → H0 a ≠ some (.lst xs)) (h0 : H0 a = some (.lst xs)) (hsv : SvAll RS H0 xs ts d) (hne : xs ≠ []) (hs : Same H0 H) (I : Inv X pins σ H s)
    (hg : A.guards = some g) (hcl : ClrS RS H0 g (d + 1)) (hf : A.frames = X.A.frames) (hr : Room (k + d + 1) A) (hT : ∀ (i : Nat) (v : V), xs[i]? = some v → ∃ t e, ts[i]? = some t ∧ e ≤ d ∧ Els X RS H0 k v t e) (hsz : base + (listText ts).length ≤ sizeLine)
    (hR : ∀ H' s' u, Same H H' → Inv X pins σ H' s' → R (.ok (.ret (.str (listText ts) u))) s') :
    wpAny (model X.prog X.w) A.in1 (Builtin.listReprAt base ⟨[.ref a], []⟩) (fun fin s' => match fin with | .done f => R (.ok f) s' | .again c' => c'.quiet = true ∧ codeAny (model X.prog X.w) A c' R s') (fun e s' => R (.error e) s') s := by
  obtain ⟨its, rv, ⟨o, n, ho, _, _, hd⟩, _⟩ := I.list (SqL.of (hs _ _ h0))
  have hca : Clear g a := hcl a _ _ (Nat.le_refl _) (.lst h0 hsv)
  cases its with
  | nil => exact absurd (List.eq_nil_of_length_eq_zero rv.length) hne
  | cons y l =>
    refine wpAny_list_repr_head (A := A.in1) hg (fun v rest kw hm => listSameRef_of_ne (hca _ _ _ _ hm)) ho hd ?_
    refine wpAny_bind (m := newList []) (wpAny_newObj_type ?_)
    refine wpAny_pure ⟨F.quiet_list_repr_loop _, ?_⟩
    refine loopO (d := d) (P := s.heap.objs.size) (Hs := H) h0 hs (Nat.ne_of_lt (Heap.lt_size ho)) hg (fun rest kw b t e he hb => ?_) hf hr (svs_len hsv) hT hsz hR _ 0 H _ #[] _ [] rfl (Nat.zero_le _) (Same.refl _) (I.kept fun b o e => Heap.get?_push_of_some _ e) (I.fpOk (Nat.le_refl _) (I.hok.fresh (Nat.le_refl _))) (Heap.get?_push_size _ rfl) rfl (by simp)
    exact (hcl b t e (by omega) hb).cons fun z => by
      subst z
      have := sv_deep hx hb (.lst h0 hsv)
      omega
theorem els_lst {a : Addr} {xs : List V} {ts : List Str} {d : Nat} (hx : ∀ a t xs, RS H0 (.ref a) t → H0 a ≠ some (.lst xs)) (h0 : H0 a = some (.lst xs)) (hsv : SvAll RS H0 xs ts d) (hT : ∀ (i : Nat) (v : V), xs[i]? = some v → ∃ t e, ts[i]? = some t ∧ e ≤ d ∧ Els X RS H0 k v t e) : Els X RS H0 k (.ref a) (listText ts) (d + 1) := by
  intro pins σ H s u base A g E Q hs I ru hsz hg hcl hf hr hQ
  obtain rfl : u = .ref a := ru
  have hu : A.units < cLine := by have := hr.un; omega
  obtain ⟨its, rv, ⟨o, n, ho, hc, _, hd⟩, _⟩ := I.list (SqL.of (hs _ _ h0))
  by_cases hne : xs = []
  · subst hne
    cases hsv
    cases rv
    exact wpAny_pyReprUnder_ref (by omega) (wpAny_pyReprObjUnder_list_empty ⟨o, ho, hc⟩ hu ho hd ⟨_, _, rfl, hQ H _ (Same.refl _) (I.tok _)⟩)
  · refine wpAny_pyReprUnder_ref (by omega) (wpAny_pyReprObjUnder_twin (twin := "list.__repr__.under") ⟨o, ho, hc⟩ F.slot_list_repr.toG rfl hu ?_)
    exact call_twin_plain F.plain_list_repr_under F.entry_list_repr_under F.check_list_repr_under ⟨o, ho, hc⟩ F.slot_list_repr.toG (F.args_list_repr_1 _)
      (listO (R := callEnd _ _) hx h0 hsv hne hs I hg hcl hf hr hT hsz fun H' s' u s1 I1 => ⟨⟨_, _, rfl⟩, _, _, rfl, hQ H' s' s1 I1⟩)
theorem els_is {v : V} {t : Str} (h : ∀ u, RelV v u → ReprIs X.prog X.w u t) : Els X RS H0 k v t 0 := fun pins σ H s u base A g E Q hs I ru hsz _ _ _ _ hQ => h u ru base hsz A E s Q fun tk => hQ H _ (Same.refl _) (I.tok _)
theorem els_dct {a : Addr} (h : H0 a = some (.dK [])) : Els X RS H0 k (.ref a) (dictText []) 0 := by
  intro pins σ H s u base A g E Q hs I ru hsz hg hcl hf hr hQ
  obtain rfl : u = .ref a := ru
  obtain ⟨_, hsm, vs, hkv, o, es, ep, ho, hx, hd, _, hp, _⟩ := dk_of I.hok (hs _ _ h)
  have ev : vs = [] := by
    cases hkv
    rfl
  subst ev
  have ee : es.toList = [] := by
    generalize es.toList = l at hp
    cases hp
    rfl
  refine ReprK.dict (as := []) (d := 0) ho hx.1 hd hsm nofun (by rw [ee]; exact .nil) base hsz A g E s Q hg (fun b hb => ?_) (by have := hr.un; omega) (fun _ _ e => e) fun h' tk hk => hQ H _ (Same.refl _) (I.kept hk)
  rw [List.mem_singleton.mp hb]
  exact hcl a _ 0 (Nat.le_refl _) (.dct h)
mutual
theorem els_of (hx : ∀ a t xs, RS H0 (.ref a) t → H0 a ≠ some (.lst xs)) (hown : ∀ v t, RS H0 v t → Els X RS H0 k v t 0) : ∀ {v : V} {t : Str} {d : Nat}, Sv RS H0 v t d → Els X RS H0 k v t d
  | _, _, _, .non => els_is fun u r => by cases r; exact ReprIs.none
  | _, _, _, .bl b => els_is fun u r => by cases r; exact ReprIs.bool b
  | _, _, _, .int i h => els_is fun u r => by obtain ⟨t, rfl⟩ := r; exact ReprIs.int t h
  | _, _, _, .str x h => els_is fun u r => by obtain ⟨t, rfl⟩ := r; exact ReprIs.str x t h
  | _, _, _, .own h => hown _ _ h
  | _, _, _, .dct h => els_dct h
  | _, _, _, .lst h r => els_lst hx h r fun i v e => elsAll hx hown r i v e
theorem elsAll (hx : ∀ a t xs, RS H0 (.ref a) t → H0 a ≠ some (.lst xs)) (hown : ∀ v t, RS H0 v t → Els X RS H0 k v t 0) : ∀ {xs : List V} {ts : List Str} {d : Nat}, SvAll RS H0 xs ts d → ∀ (i : Nat) (v : V), xs[i]? = some v → ∃ t e, ts[i]? = some t ∧ e ≤ d ∧ Els X RS H0 k v t e
  | _, _, _, .nil, i, v, e => by simp at e
  | _, _, _, .cons (d := d1) h _, 0, v, e => by
    simp at e
    subst e
    exact ⟨_, d1, rfl, Nat.le_max_left _ _, els_of hx hown h⟩
  | _, _, _, .cons _ r, i + 1, v, e => by
    obtain ⟨t, e1, h1, h2, h3⟩ := elsAll hx hown r i v (by simpa using e)
    exact ⟨t, e1, by simpa using h1, Nat.le_trans h2 (Nat.le_max_right _ _), h3⟩
end
/-- an own object's text, told by its method -/
def OwnR (K : PySem.W.Frag) (C : Str) (sp : Sp) (js : List Nat) : Hp → V → Str → Prop := fun H v t => ∃ a dx fl, v = .ref a ∧ H a = some (.ins (He.ga K C) dx fl) ∧ ∀ H0, ExtN H H0 → sp (pick js ([.ref a] ++ [] ++ [])) H0 (fun y H' => y = .str t ∧ Same H0 H') (fun _ _ _ => False)
theorem ownR_lst {K : PySem.W.Frag} {C : Str} {sp : Sp} {js : List Nat} {H : Hp} : ∀ a t xs, OwnR K C sp js H (.ref a) t → H a ≠ some (.lst xs) := fun a t xs h z => by
  obtain ⟨b, dx, fl, e, h1, _⟩ := h
  cases e
  rw [h1] at z
  cases z
theorem ownR_same {K : PySem.W.Frag} {C : Str} {sp : Sp} {js : List Nat} {H H' : Hp} (s : Same H H') : ∀ v t, OwnR K C sp js H v t → OwnR K C sp js H' v t := fun v t h => by
  obtain ⟨a, dx, fl, rfl, h1, h2⟩ := h
  exact ⟨a, dx, fl, rfl, s _ _ h1, fun H0 s0 => h2 H0 ((ExtN.of s).trans s0)⟩
theorem ownR_x {K : PySem.W.Frag} {C : Str} {sp : Sp} {js : List Nat} {H H' : Hp} (s : ExtN H H') : ∀ v t, OwnR K C sp js H v t → OwnR K C sp js H' v t := fun v t h => by
  obtain ⟨a, dx, fl, rfl, h1, h2⟩ := h
  exact ⟨a, dx, fl, rfl, s _ _ h1 nofun, fun H0 s0 => h2 H0 (s.trans s0)⟩
theorem els_own {C q : Str} {st : Stmt} {ps : List Str} {sp : Sp} {js : List Nat} (F : HasMA X.prog X.w X.K X.mg X.base C8.CX0 k C "__repr__" q st [] ps sp) (hb : BindJ "__repr__" q st ps 0 1 [] js) {v : V} {t : Str} (h : OwnR X.K C sp js H0 v t) : Els X RS H0 k v t 0 := by
  intro pins σ H s u base A g E Q hs I ru hsz hg _ hf hr hQ
  obtain ⟨a, dx, fl, rfl, ha, hq⟩ := h
  obtain rfl : u = .ref a := ru
  obtain ⟨fd, FD, G⟩ := F.ex
  obtain ⟨gg, B⟩ := kbn FD hb
  obtain ⟨mA, J, _⟩ := ins_get I.hok (hs _ _ ha)
  obtain ⟨od, J, _⟩ := J.look
  have e0 : Env0 X.prog X.w X.K X.mg X.base A X.stack s H := by
    have e := I.env0
    exact ⟨by rw [hf]; exact e.frames, e.mod, e.bs, e.bsz, e.funs, e.frf, e.hok, e.bare⟩
  refine wpAny_pyReprUnder_ref (by omega) (wpAny_mono (under_own (Q := fun v s' => ∃ x u, v = .str x u ∧ Q x s') (by have := hr.un; omega) I.kIn J F.mt.at_ F.mt.fn ?_) (fun v s' hv => ?_) fun _ _ x => x)
  · have b := B.to s [.ref a] [] I.kIn rfl rfl
    refine wpAny_call (codeAny_mono (G.run A X.stack s H ⟨[.ref a], []⟩ _ _ _ _ hr e0 b (B.rel (.cons (show RelV (.ref a) (.ref a) from rfl) .nil) .nil) (hq H (ExtN.of hs))) fun z s' hz => ?_)
    cases z with
    | error e => exact (show False from hz).elim
    | ok flw =>
      cases flw with
      | ret u =>
        obtain ⟨v, H', I', rv, rfl, s1⟩ := I.after hz
        obtain ⟨tk, rfl⟩ := rv
        exact ⟨_, _, rfl, hQ H' _ s1 I'⟩
      | next => exact hz.elim
      | brk => exact hz.elim
      | cont => exact hz.elim
  · obtain ⟨x, u, rfl, y, u2, e, hq2⟩ := hv
    cases e
    exact ⟨_, _, rfl, hq2⟩
/-- repr(v) -/
def rReprS (RS : Hp → V → Str → Prop) : List V → Hp → VK → Prop := fun xs H Q => ∃ v t d, xs = [v] ∧ Sv RS H v t d ∧ d ≤ 5 ∧ (∃ a l, v = .ref a ∧ H a = some (.lst l)) ∧ t.length ≤ sizeLine ∧ ∀ H', Same H H' → Q (.str t) H'
theorem k_reprS {C q : Str} {st : Stmt} {ps : List Str} {sp : Sp} {js : List Nat} (F : HasMA X.prog X.w X.K X.mg X.base C8.CX0 k C "__repr__" q st [] ps sp) (hb : BindJ "__repr__" q st ps 0 1 [] js) (hr : Room (k + 7) X.A) (hg : X.A.guards = some []) : CallR X (.builtin "repr") (rReprS (OwnR X.K C sp js)) := by
  intro pins s σ H xs us Q I r h
  obtain ⟨v, t, d, rfl, hsv, hd, ⟨a, l, rfl, ha⟩, hz, hQ⟩ := h
  obtain ⟨u, rfl, ru⟩ := vals1 r
  obtain rfl : u = .ref a := ru
  have hall : ∀ {v : V} {t : Str} {d : Nat}, Sv (OwnR X.K C sp js) H v t d → Els X (OwnR X.K C sp js) H k v t d := fun h => els_of ownR_lst (fun v t h => els_own F hb h) h
  obtain ⟨its, rv, ⟨o, n, ho, hc, _, hdd⟩, _⟩ := I.list (SqL.of ha)
  have hu : X.A.units + 1 < cLine := by have := hr.un; omega
  refine call_repr_slot hu ⟨o, ho, hc⟩ PySem.F.slot_list_repr.toG ?_
  cases hsv with
  | own z => exact absurd ha (ownR_lst _ _ _ z)
  | dct z => rw [z] at ha; cases ha
  | @lst _ xs ts d h0 hs =>
    by_cases hne : xs = []
    · subst hne
      rw [h0] at ha
      cases ha
      cases hs
      cases rv
      exact call_list_repr_empty ⟨o, ho, hc⟩ ho hdd ⟨_, _, rfl, .str "[]", H, I.tok _, ⟨_, rfl⟩, hQ H (Same.refl _)⟩
    · refine wpAny_call (codeAny_call_builtin PySem.F.slot_list_repr.plain PySem.F.entry_list_repr (PySem.F.slot_list_repr.check _ _ _ _ _ _ _ _ ⟨o, ho, hc⟩ (PySem.F.args_list_repr_1 _)
        (listO (k := k) (base := 0) (R := callEnd _ _) ownR_lst h0 hs hne (Same.refl _) I (show X.A.in1.guards = some [] from hg) (fun _ _ _ _ _ => Clear.nil _) rfl ?_ (fun i v e => elsAll ownR_lst (fun v t h => els_own F hb h) hs i v e) (by omega) fun H' s' u s1 I1 => ⟨_, _, rfl, .str (listText ts), H', I1, ⟨_, rfl⟩, hQ H' s1⟩)))
      exact (Room.mono (show Room (k + 6) X.A.in1 from hr.in1) (by omega))
/-- .. of data or of a list in which own objects stand -/
def rReprB (K : PySem.W.Frag) (RS : Hp → V → Str → Prop) : List V → Hp → VK → Prop := fun xs H Q => rReprX K xs H Q ∨ rReprS RS xs H Q
theorem k_reprB (K : PySem.W.Frag) {C q : Str} {st : Stmt} {ps : List Str} {sp : Sp} {js : List Nat} (F : HasMA X.prog X.w K X.mg X.base C8.CX0 k C "__repr__" q st [] ps sp) (hb : BindJ "__repr__" q st ps 0 1 [] js) (hr : Room (k + 7) X.A) (hg : X.A.guards = some []) (hu : X.A.units + 64 < cLine) (hK : X.K = K := by rfl) : CallR X (.builtin "repr") (rReprB K (OwnR K C sp js)) := by
  subst hK
  intro pins s σ H xs us Q I r h
  rcases h with h | h
  · exact call_reprX hg hu pins s σ H xs us Q I r h
  · exact k_reprS F hb hr hg pins s σ H xs us Q I r h
end
section
variable {K : PySem.W.Frag} {RS : Hp → V → Str → Prop} {H : Hp} {Q : VK}
theorem w_reprB {v : V} {d : PyData} (h : Dx K H v d) (s : ShowsX d) (q : Q (.str d.shown) H) : rReprB K RS [v] H Q := .inl ⟨v, d, rfl, h, s, q⟩
theorem w_reprO {a : Addr} {l : List V} {t : Str} {d : Nat} (h : Sv RS H (.ref a) t d) (hd : d ≤ 5) (ha : H a = some (.lst l)) (ht : t.length ≤ 1000000) (q : ∀ H', Same H H' → Q (.str t) H') : rReprB K RS [.ref a] H Q := .inr ⟨.ref a, t, d, rfl, h, hd, ⟨a, l, rfl, ha⟩, Nat.le_trans ht (by rw [sizeLine_eq]; decide), q⟩
theorem sv_lst2 {a : Addr} {v w : V} {t u : Str} {d e : Nat} (ha : H a = some (.lst [v, w])) (h : Sv RS H v t d) (h2 : Sv RS H w u e) : Sv RS H (.ref a) (listText [t, u]) (max d e + 1) := by
  have := Sv.lst ha (.cons h (.cons h2 .nil))
  rwa [Nat.max_eq_left (Nat.zero_le e)] at this
end
/-! ### what is no Summary; late changes of any values (k53) -/
def NoSum (K : PySem.W.Frag) (H : Hp) (v : V) : Prop := (∃ d, Dx K H v d) ∨ (∃ l xs, v = .ref l ∧ H l = some (.lst xs)) ∨ ∃ l xs, v = .ref l ∧ H l = some (.tup xs)
theorem NoSum.ty {K : PySem.W.Frag} {H : Hp} {v : V} (h : NoSum K H v) : ∃ T, T ∈ ["NoneType", "bool", "int", "str", "list", "tuple", "dict"] ∧ TyX K H v (.type T) := by
  rcases h with ⟨d, h⟩ | ⟨l, xs, rfl, h⟩ | ⟨l, xs, rfl, h⟩
  · exact ⟨tyD d, by cases d <;> simp [tyD], ty_dx h⟩
  · exact ⟨"list", by simp, .base (.lst h)⟩
  · exact ⟨"tuple", by simp, .base (.tup h)⟩
theorem NoSum.x {K : PySem.W.Frag} {H H' : Hp} {v : V} (h : NoSum K H v) (s : ExtN H H') : NoSum K H' v := by
  rcases h with ⟨d, h⟩ | ⟨l, xs, rfl, h⟩ | ⟨l, xs, rfl, h⟩
  · exact .inl ⟨d, dx_x s h⟩
  · exact .inr (.inl ⟨l, xs, rfl, lst_x s h⟩)
  · exact .inr (.inr ⟨l, xs, rfl, s _ _ h nofun⟩)
theorem NoSum.id {K : PySem.W.Frag} {H : Hp} {v : V} (h : NoSum K H v) : flatB v = true ∨ ∃ r, v = .ref r := by
  rcases h with ⟨d, h⟩ | ⟨l, xs, rfl, h⟩ | ⟨l, xs, rfl, h⟩
  · cases h with
    | lst _ _ => exact .inr ⟨_, rfl⟩
    | tup _ _ => exact .inr ⟨_, rfl⟩
    | dct _ => exact .inr ⟨_, rfl⟩
    | _ => exact .inl rfl
  · exact .inr ⟨_, rfl⟩
  · exact .inr ⟨_, rfl⟩
theorem NoSum.same {K : PySem.W.Frag} {H H' : Hp} {v : V} (h : NoSum K H v) (s : Same H H') : NoSum K H' v := h.x (ExtN.of s)
def lenTD : PyData → Nat
  | .tuple ds => ds.length
  | _ => 0
def lateE (b : Bool) (d1 d2 d3 : PyData) (v v2 v3 : V) : Option (Str × Str × V) :=
  if b = false then some ("NotASummary", "value", v) else if orderD d1 = false then some ("InvalidOrder", "index", ordV d1)
  else if betD d2 0 (lenTD d1 : Int) = false then some ("InvalidIndex", "index", v2) else if nameD d3 = false then some ("InvalidName", "name", v3) else none
/-! ### lists of lists -/
section
variable {J : It} {n : Nat} {G : Hp → Prop} {Y : Nat → Hp → V → Hp → Prop} {g : TG} {te : TE} {vs : List Nat} {σ : L2.St} {H1 : Hp} {D : Addr} {Q : VK}
end
/-! ### rows of a word and a value -/
def smW (d : PyData) : Bool := okX d && (decide (rbX d ≤ 1000000) && (decide (d.depth ≤ 20) && !d.hasDict))
/-- a value that is shown: data without dicts, or one in which objects stand -/
def ShK (K : PySem.W.Frag) (RS : Hp → V → Str → Prop) (H : Hp) (y : V) : Prop := (∃ d, Dx K H y d ∧ smW d = true) ∨ ∃ t d, Sv RS H y t d ∧ d ≤ 2 ∧ t.length ≤ 50000
theorem listText_le (ts : List Str) : (listText ts).length ≤ (ts.map fun t => t.length + 2).sum + 2 := by
  unfold listText
  have h1 := textFrom_le ts 0 "["
  rw [str_app_len]
  have e1 : (Str.ofString "[").length = 1 := by decide
  have e2 : (Str.ofString "]").length = 1 := by decide
  rw [e1] at h1
  rw [e2]
  omega
/-- no list stands in it, or it is a list of one such value -/
def lst1 (d : PyData) : Bool := noL d || match d with
  | .list [e] => noL e
  | _ => false
structure GivL (b0 b1 b2 b3 : Bool) (n : Nat) (d1 d2 d3 : PyData) (ep : V) : Prop where
  h1 : b1 = true → orderD d1 = false ∧ ordV d1 = ep
  g1 : b1 = false → orderD d1 = true ∧ lenTD d1 = n
  h2 : b2 = true → betD d2 0 (n : Int) = false
  g2 : b2 = false → betD d2 0 (n : Int) = true
  h3 : b3 = true → nameD d3 = false
  g3 : b3 = false → nameD d3 = true
/-- what is due -/
def dueL (b0 b1 b2 b3 : Bool) (z0 ep z2 z3 : V) : List V :=
  if b0 = true then [.str "notsummary", z0] else if b1 = true then [.str "order", ep] else if b2 = true then [.str "index", z2] else if b3 = true then [.str "name", z3] else [.str "returned"]
section
variable {RS : Hp → V → Str → Prop} {H H' : Hp}
mutual
theorem sv_x (s : ExtN H H') (hR : ∀ v t, RS H v t → RS H' v t) : ∀ {v : V} {t : Str} {d : Nat}, Sv RS H v t d → Sv RS H' v t d
  | _, _, _, .non => .non
  | _, _, _, .bl b => .bl b
  | _, _, _, .int i h => .int i h
  | _, _, _, .str x h => .str x h
  | _, _, _, .own h => .own (hR _ _ h)
  | _, _, _, .dct h => .dct (s _ _ h nofun)
  | _, _, _, .lst h r => .lst (lst_x s h) (svs_x s hR r)
theorem svs_x (s : ExtN H H') (hR : ∀ v t, RS H v t → RS H' v t) : ∀ {xs : List V} {ts : List Str} {d : Nat}, SvAll RS H xs ts d → SvAll RS H' xs ts d
  | _, _, _, .nil => .nil
  | _, _, _, .cons h r => .cons (sv_x s hR h) (svs_x s hR r)
end
theorem shK_x {K : PySem.W.Frag} {y : V} (s : ExtN H H') (hR : ∀ v t, RS H v t → RS H' v t) (h : ShK K RS H y) : ShK K RS H' y := by
  rcases h with ⟨d, h1, h2⟩ | ⟨t, d, h1, h2⟩
  · exact .inl ⟨d, dx_x s h1, h2⟩
  · exact .inr ⟨t, d, sv_x s hR h1, h2⟩
end
/-! ### data, or a Summary (k36, k42) -/
def sumMark : PyData := .dict [(.none, .none)]
def Ax (K : PySem.W.Frag) (H : Hp) (v : V) (d : PyData) : Prop := Dx K H v d ∨ (d = sumMark ∧ ∃ c ps, SumO K H v c ps)
theorem ax_x {K : PySem.W.Frag} {H H' : Hp} {v : V} {d : PyData} (s : ExtN H H') (h : Ax K H v d) : Ax K H' v d := by
  rcases h with h | ⟨rfl, c, ps, h⟩
  · exact .inl (dx_x s h)
  · exact .inr ⟨rfl, c, ps, sum_x s h⟩
/-! ### sizes of any values (k42) -/
def sizeOk (c : Int) (ps : Bag) : PyData → Bool
  | .int N => decide (sumC ps ≤ N) && decide ((N - sumC ps) % (c + 1) = 0)
  | _ => false
def sizeE (b : Bool) (c : Int) (ps : Bag) (d1 : PyData) (v v1 : V) : Option (Str × Str × V) :=
  if b = false then some ("NotASummary", "value", v) else if sizeOk c ps d1 = false then some ("InvalidSize", "size", v1) else none
/-- the error of one of six questions -/
def truE (j : Int) (b : Bool) (c : Int) (ps : Bag) (d1 dB dW dL dM : PyData) (v v1 vW vL vM : V) : Option (Str × Str × V) :=
  match sizeE b c ps d1 v v1 with
  | some e => some e
  | none =>
    if j = 0 then none
    else if j = 1 then (if verOk (badF 12) dB = false then some ("InvalidCounts", "index", verV (badF 12) dB) else none)
    else if nameD dW = false then some ("InvalidName", "name", vW)
    else if j = 3 ∧ nameD dL = false then some ("InvalidName", "name", vL)
    else if j = 5 ∧ fromD dM 1 = false then some ("InvalidNumber", "number", vM) else none
def TruH (K : PySem.W.Frag) (H : Hp) (v : V) (b : Bool) (c : Int) (ps : Bag) : Prop := (b = true → SumO K H v c ps ∧ SumV c ps) ∧ (b = false → NoSum K H v)
section
variable {b : Bool} {c : Int} {ps : Bag} {d1 dB dW dL dM : PyData} {v v1 vW vL vM : V} {j : Int}
end
/-- what is due: the word returned, or a word and a value -/
def ShDue (K : PySem.W.Frag) (RS : Hp → V → Str → Prop) (H : Hp) (due : List V) : Prop := due = [.str "returned"] ∨ ∃ wd y, due = [.str wd, y] ∧ (okX (.str wd) && decide (rbX (.str wd) ≤ 200)) = true ∧ ShK K RS H y
theorem due_repr {K : PySem.W.Frag} {RS : Hp → V → Str → Prop} {H : Hp} {due : List V} (hm : ∀ {H H' : Hp}, Same H H' → ∀ v t, RS H v t → RS H' v t) (h : ShDue K RS H due) :
    ∃ T : Str, ∀ H', Same H H' → ∀ (D : Addr) (Q : VK), H' D = some (.lst due) → (∀ H'', Same H' H'' → Q (.str T) H'') → rReprB K RS [.ref D] H' Q := by
  rcases h with rfl | ⟨wd, y, rfl, hw, ⟨d, hd, hs⟩ | ⟨t, e, hs, he, ht⟩⟩
  · exact ⟨_, fun H' s D Q hD hQ => w_reprB (d := .list [.str "returned"]) (.lst (SqL.of hD) (.cons (.str _) .nil)) ⟨by decide +kernel, by decide +kernel, by decide +kernel, by decide +kernel⟩ (hQ H' (Same.refl _))⟩
  · refine ⟨(PyData.list [.str wd, d]).shown, fun H' s D Q hD hQ => ?_⟩
    refine w_reprB (d := .list [.str wd, d]) (.lst (SqL.of hD) (.cons (.str _) (.cons (dx_same s hd) .nil))) ?_ (hQ H' (Same.refl _))
    simp only [smW, Bool.and_eq_true, decide_eq_true_eq] at hs hw
    obtain ⟨k1, k2, k3, k4⟩ := hs
    refine ⟨?_, ?_, ?_, ?_⟩
    · show (okX (.str wd) && (okX d && true)) = true
      rw [hw.1, k1]; rfl
    · show (rbX (.str wd) + 2 + (rbX d + 2 + 0)) + 2 ≤ _
      have := hw.2
      omega
    · simp only [PyData.depth, PyData.depthAll]; omega
    · have e : (PyData.list [.str wd, d]).hasDict = d.hasDict := by simp [PyData.hasDict, PyData.hasDictAll]
      show (!(PyData.list [.str wd, d]).hasDict || _) = true
      rw [e]
      simp at k4
      rw [k4]; rfl
  · refine ⟨listText [reprText wd, t], fun H' s D Q hD hQ => ?_⟩
    simp only [Bool.and_eq_true, decide_eq_true_eq] at hw
    have hl := shown_leX (.str wd) hw.1
    have hl : (reprText wd).length ≤ 200 := Nat.le_trans hl hw.2
    have hr : Sv RS H' (.str wd) (reprText wd) 0 := .str wd (Nat.le_trans hl (by rw [sizeLine_eq]; decide))
    have b1 := listText_le [reprText wd, t]
    simp only [List.map_cons, List.map_nil, List.sum_cons, List.sum_nil] at b1
    exact w_reprO (sv_lst2 hD hr (sv_same s (hm s) hs)) (by omega) hD (by omega) hQ
/-- what one of the six questions answers, and what is due -/
def DueT (j : Int) (b : Bool) (c : Int) (ps : Bag) (d1 dB dW dL dM : PyData) (v v1 vW vL vM : V) (due : List V) : Prop := (truE j b c ps d1 dB dW dL dM v v1 vW vL vM = none ∧ due = [.str "returned"]) ∨ ∃ C f wd y, truE j b c ps d1 dB dW dL dM v v1 vW vL vM = some (C, f, y) ∧ (C, f, wd) ∈ exTab ∧ due = [.str wd, y]
theorem w_mkSumV {K : PySem.W.Frag} {H : Hp} {Q : VK} {sp : Sp} {js : List Nat} {dvs vs zs : List V} {c : Int} {ps : Bag} {bv : V} {E : XK} (hp : ∀ x, pick js ((V.ref x :: vs) ++ zs ++ dvs) = [.ref x, .int c, bv]) (hd : Dp K H bv (bagD ps)) (hv : SumV c ps) (k : ∀ v H', Same H H' → SumO K H' v c ps → Q v H')
    (hsp : sp = spInitX K := by rfl) : MkG (He.ga K "Summary") sp js dvs vs zs H Q E := by
  have hl := hv.len
  have c1 := hv.c1
  have c8 := hv.c8
  refine w_mkSumX hp (.int _) (dp_dx hd) hv.ok.sz (fun hb => absurd hb (by show ¬ (decide (_ ≤ _) && decide (_ ≤ _)) = false; rw [decide_eq_true c1, decide_eq_true c8]; decide)) (fun c' ec _ _ => ?_) hsp
  cases ec
  refine ⟨fun _ a dx H' s e => k _ H' s ⟨a, dx, bv, rfl, e, dp_same s hd⟩, fun ho => absurd ho ?_⟩
  rw [show verOk (badF c) (bagD ps) = true from (by show (firstBad _ _).isNone = true; rw [bag_good hv.ok (by omega)]; rfl)]
  decide
/-! ### != of lists that hold the same (k12) -/
def rNeS (K : PySem.W.Frag) : R2 := fun x y H Q => ∃ a b xs, x = .ref a ∧ y = .ref b ∧ SqL K H a xs ∧ SqL K H b xs ∧ (∀ v ∈ xs, flatB v = true ∨ ∃ r, v = .ref r) ∧ Q (.bl false) H
section
variable {X : Cx} {pins : List (Addr × Obj)} {σ : L2.St} {H : Hp} {s : Shared}
end
/-! ### a list of caught rows that grows -/
def Rows (H : Hp) (R : Addr) (wd : Str) (P : V → Prop) (n : Nat) (ls : List V) : Prop := H R = some (.lst ls) ∧ ls.length = n ∧ ∀ y ∈ ls, ∃ l z, y = .ref l ∧ l ≠ R ∧ H l = some (.lst [.str wd, z]) ∧ P z
/-! ### methods inside lambdas: the written part told -/
section
variable {X : Cx} {CX : CXT} {k n : Nat} {C m q : Str} {st : Stmt} {dvs : List V} {ps ks : List Str} {js : List Nat} {sp : Sp} {E : XK} {p pos apos : Pos} {e o : Expr} {es : List Expr} {kws : List Keyword} {ta : TE} {t tk : TA} {fs : List Str}
end
end TP

namespace TP
open PySem PySem.Spec PyProof.Rows L2 TL
/-! ### sorted(..) of any number of texts -/
def svS : Value → Str
  | .str x _ => x
  | _ => Str.empty
def ltSv (v u : Value) : Bool := decide ((svS v).cps.toList < (svS u).cps.toList)
section
variable {prog : Program} {w : World} {A : Around} {s : Shared}
end
def rSortedSA (K : PySem.W.Frag) : List V → Hp → VK → Prop := fun vs H Q => ∃ (a : Addr) (ws : List Str), vs = [V.ref a] ∧ SqL K H a (ws.map V.str) ∧
  ∀ (ys : List Str) (p : Addr), ys.Perm ws → (ys.Pairwise fun a b => ¬ ltS b a) → H p = none → Q (.ref p) (upd H p (.lst (ys.map V.str)))
section
variable {X : Cx}
end
/-! ### the first ones of equal neighbours -/
def fstN (ys : List Str) : List Nat := (List.range ys.length).filter fun k => decide (k = 0) || decide (ys[k]? ≠ ys[k - 1]?)
def dstS : Option Str → List Str → List Str
  | _, [] => []
  | p, y :: r => if p = some y then dstS (some y) r else y :: dstS (some y) r
end TP

namespace TP
open PySem PySem.Spec PyProof.Rows L2 TL
/-! ### what a text of an order tells (k14) -/
def chg (p : Option Str) (ys : List Str) (k : Nat) : Bool := if k = 0 then !decide (p = ys[0]?) else !decide (ys[k]? = ys[k - 1]?)
def isDig (c : Nat) : Bool := decide (48 ≤ c) && decide (c ≤ 57)
theorem dig_num : ∀ (l : List Nat), l ≠ [] → (∀ c ∈ l, isDig c = true) → l.head? ≠ some 48 → ∃ n, 1 ≤ n ∧ numL n = l := fun l => by
  have rev : ∀ (m : List Nat), m ≠ [] → (∀ c ∈ m, isDig c = true) → m.reverse.head? ≠ some 48 → ∃ n, 1 ≤ n ∧ numL n = m.reverse := fun m => by
    induction m with
    | nil => intro h; exact absurd rfl h
    | cons c r ih =>
      intro _ hd h0
      have hc := hd c List.mem_cons_self
      unfold isDig at hc
      rw [Bool.and_eq_true, decide_eq_true_eq, decide_eq_true_eq] at hc
      rw [List.reverse_cons] at h0 ⊢
      cases r with
      | nil =>
        have h0 : c ≠ 48 := fun e => h0 (by rw [e]; rfl)
        refine ⟨c - 48, by omega, ?_⟩
        rw [numL_lt (by omega)]
        show [48 + (c - 48)] = [c]
        rw [show 48 + (c - 48) = c by omega]
      | cons d s =>
        have hne : (d :: s).reverse ≠ [] := by simp
        obtain ⟨n, n1, en⟩ := ih (by simp) (fun x hx => hd x (List.mem_cons_of_mem _ hx)) (fun e => h0 (by
          rw [List.head?_append, e]; rfl))
        refine ⟨10 * n + (c - 48), by omega, ?_⟩
        rw [numL_step (by omega), show (10 * n + (c - 48)) / 10 = n by omega, show (10 * n + (c - 48)) % 10 = c - 48 by omega, en, show 48 + (c - 48) = c by omega]
  intro h hd h0
  have := rev l.reverse (by simpa using h) (fun c hc => hd c (by simpa using hc)) (by rw [List.reverse_reverse]; exact h0)
  rw [List.reverse_reverse] at this
  exact this
def allDig (b : Str) : Bool := (tl b).all isDig
def okN (b : Str) : Bool := !decide (b = "") && (allDig b && (!decide ((tl b).head? = some 48) || decide (b = "0")))
def numT (b : Str) : Option Int := if okN b = true then intText? b else none
theorem str_tl {x y : Str} (h : tl x = tl y) : x = y := str_ext h
theorem num_ok {b : Str} (h : okN b = true) (hl : b.length ≤ 640) : ∃ n : Int, intText? b = some n ∧ numT b = some n ∧ ((b = "0" ∧ n = 0) ∨ (1 ≤ n ∧ b = intS n ∧ (tl b).head? ≠ some 48 ∧ (n = 1 ↔ b = "1"))) := by
  have hn : numT b = intText? b := by unfold numT; rw [if_pos h]
  rw [hn]
  unfold okN at h
  rw [Bool.and_eq_true, Bool.and_eq_true, Bool.or_eq_true] at h
  obtain ⟨h1, h2, h3⟩ := h
  have h1 : b ≠ "" := fun e => by rw [decide_eq_true e] at h1; cases h1
  by_cases h0 : b = "0"
  · subst h0
    exact ⟨0, by decide +kernel, by decide +kernel, .inl ⟨rfl, rfl⟩⟩
  · have h3 : (tl b).head? ≠ some 48 := fun e => by
      rcases h3 with h3 | h3
      · rw [decide_eq_true e] at h3; cases h3
      · exact h0 (of_decide_eq_true h3)
    obtain ⟨n, n1, en⟩ := dig_num (tl b) (fun e => h1 (str_tl (by rw [e]; decide +kernel))) (fun c hc => List.all_eq_true.mp h2 c hc) h3
    have eb : b = intS (n : Int) := str_tl (by rw [tl_intS (by omega)]; exact en.symm)
    have e := int_num (n := n) (by rw [en]; have : b.length = (tl b).length := len_list b; omega)
    have e' : intText? b = some (n : Int) := by rw [eb]; exact e
    refine ⟨n, e', e', .inr ⟨by omega, eb, h3, fun z => ?_, fun z => ?_⟩⟩
    · rw [eb, z]; decide +kernel
    · rw [z] at e'
      have : intText? ("1" : Str) = some 1 := by decide +kernel
      rw [this] at e'
      exact (Option.some.inj e').symm
theorem num_no {b : Str} (h : okN b = false) : numT b = none := by unfold numT; rw [if_neg (by rw [h]; decide)]
def wordR (w : Str) : Option (Str × Int) :=
  if (Txt.partition w "*").2.1 = Str.empty then some ((Txt.partition w "*").1, 1)
  else match numT (Txt.partition w "*").2.2 with
    | some n => if 2 ≤ n then some ((Txt.partition w "*").1, n) else none
    | none => none
def wordsT (t : Str) : List Str := if t = "-" then [] else Txt.split t " "
def runsT : List Str → Option Bag
  | [] => some []
  | w :: r => match wordR w with
    | some q => match runsT r with
      | some rs => some (q :: rs)
      | none => none
    | none => none
def orderT (t : Str) : Option Bag := match runsT (wordsT t) with
  | some rs => if orderD (bagD rs) = true then some rs else none
  | none => none
/-! how long the digits are -/
def DR (n : Nat) (l : List Nat) : Prop := ∀ p s q, l = p ++ s ++ q → (∀ c ∈ s, isDig c = true) → s.length ≤ n
theorem DR.mono {n m : Nat} {l : List Nat} (h : DR n l) (hm : n ≤ m) : DR m l := fun p s q e hs => Nat.le_trans (h p s q e hs) hm
theorem DR.of_len {n : Nat} {l : List Nat} (h : l.length ≤ n) : DR n l := fun p s q e _ => by
  rw [e, List.length_append, List.length_append] at h; omega
theorem DR.sub {n : Nat} {l a b c : List Nat} (h : DR n l) (e : l = a ++ b ++ c) : DR n b := fun p s q eb hs => h (a ++ p) s (q ++ c) (by rw [e, eb]; simp) hs
theorem DR.take {n k : Nat} {l : List Nat} (h : DR n l) : DR n (l.take k) := h.sub (a := []) (c := l.drop k) (by rw [List.nil_append, List.take_append_drop])
theorem DR.drop {n k : Nat} {l : List Nat} (h : DR n l) : DR n (l.drop k) := h.sub (a := l.take k) (c := []) (by rw [List.append_nil, List.take_append_drop])
theorem DR.app {n m : Nat} {a b : List Nat} (ha : DR n a) (hb : DR m b) : DR (n + m) (a ++ b) := fun p s q e hs => by
  have h1 : (s.take (a.length - p.length)).length ≤ n := by
    by_cases hp : p.length ≤ a.length
    · refine ha p (s.take (a.length - p.length)) (q.take (a.length - p.length - s.length)) ?_ fun c hc => hs c (List.mem_of_mem_take hc)
      have := congrArg (List.take a.length) e
      rw [List.take_left', List.append_assoc, List.take_append, List.take_of_length_le hp, List.take_append] at this
      · rw [List.append_assoc]; exact this
      · rfl
    · rw [show a.length - p.length = 0 by omega, List.take_zero]; exact Nat.zero_le _
  have h2 : (s.drop (a.length - p.length)).length ≤ m := by
    refine hb (p.drop a.length) (s.drop (a.length - p.length)) (q.drop (a.length - p.length - s.length)) ?_ fun c hc => hs c (List.mem_of_mem_drop hc)
    have := congrArg (List.drop a.length) e
    rw [List.drop_left', List.append_assoc, List.drop_append, List.drop_append] at this
    · rw [this, List.append_assoc]
    · rfl
  have := List.take_append_drop (a.length - p.length) s
  have := congrArg List.length this
  rw [List.length_append] at this
  omega
theorem DR.sep {n c : Nat} {a b : List Nat} (ha : DR n a) (hb : DR n b) (hc : isDig c = false) : DR n (a ++ c :: b) := fun p s q e hs => by
  by_cases h1 : p.length + s.length ≤ a.length
  · refine ha p s (q.take (a.length - p.length - s.length)) ?_ hs
    have := congrArg (List.take a.length) e
    rw [List.take_left', List.append_assoc, List.take_append, List.take_of_length_le (by omega), List.take_append, List.take_of_length_le (by omega)] at this
    · rw [List.append_assoc]; exact this
    · rfl
  · by_cases h2 : a.length < p.length
    · refine hb (p.drop (a.length + 1)) s q ?_ hs
      have := congrArg (List.drop (a.length + 1)) e
      rw [List.drop_append, List.drop_eq_nil_of_le (by omega), List.nil_append, show a.length + 1 - a.length = 1 by omega, List.append_assoc, List.drop_append, show a.length + 1 - p.length = 0 by omega] at this
      rw [List.append_assoc]
      exact this
    · exfalso
      have h3 : (a ++ c :: b)[a.length]? = (p ++ s ++ q)[a.length]? := by rw [e]
      rw [List.getElem?_append_right (Nat.le_refl _), Nat.sub_self, List.append_assoc, List.getElem?_append_right (by omega), List.getElem?_append_left (by omega)] at h3
      have hm := List.mem_of_getElem? h3.symm
      rw [hs c hm] at hc
      cases hc
theorem spl_sub : ∀ (l acc w : List Nat), w ∈ spl [32] 0 acc l → ∃ p q, acc ++ l = p ++ w ++ q
  | [], acc, w, h => by
    rw [spl_nil] at h
    rw [List.mem_singleton.mp h]
    exact ⟨[], [], by simp⟩
  | c :: r, acc, w, h => by
    cases hp : pre [32] (c :: r) with
    | true =>
      rw [spl_hit hp] at h
      rcases List.mem_cons.mp h with e | h
      · exact ⟨[], c :: r, by rw [e]; simp⟩
      · obtain ⟨p, q, e⟩ := spl_sub r [] w h
        have e : r = p ++ w ++ q := e
        exact ⟨acc ++ c :: p, q, by rw [e]; simp⟩
    | false =>
      rw [spl_miss hp] at h
      obtain ⟨p, q, e⟩ := spl_sub r (acc ++ [c]) w h
      exact ⟨p, q, by rw [← e]; simp⟩
theorem word_dr {n : Nat} {t w : Str} (h : DR n (tl t)) (hw : w ∈ wordsT t) : DR n (tl w) := by
  unfold wordsT at hw
  split at hw
  · cases hw
  · have e := split_spl t " " (by decide +kernel) (kind_ok (by decide +kernel))
    have hm : tl w ∈ (Txt.split t " ").map tl := List.mem_map.mpr ⟨w, hw, rfl⟩
    rw [e, show tl (" " : Str) = [32] from by decide +kernel] at hm
    obtain ⟨p, q, e2⟩ := spl_sub _ _ _ hm
    exact h.sub (show tl t = p ++ tl w ++ q from e2)
theorem word_len {t w : Str} (hw : w ∈ wordsT t) : w.length ≤ t.length := by
  unfold wordsT at hw
  split at hw
  · cases hw
  · have e := split_spl t " " (by decide +kernel) (kind_ok (by decide +kernel))
    have hm : tl w ∈ (Txt.split t " ").map tl := List.mem_map.mpr ⟨w, hw, rfl⟩
    rw [e, show tl (" " : Str) = [32] from by decide +kernel] at hm
    obtain ⟨p, q, e2⟩ := spl_sub _ _ _ hm
    have e2 : tl t = p ++ tl w ++ q := e2
    have e3 := congrArg List.length e2
    rw [List.length_append, List.length_append] at e3
    have a : w.length = (tl w).length := len_list w
    have b : t.length = (tl t).length := len_list t
    omega
theorem words_le (t : Str) : (wordsT t).length ≤ t.length + 2 := by
  unfold wordsT
  split
  · exact Nat.zero_le _
  · exact split_le t " "
theorem dr_num {n : Nat} {b : Str} (h : DR n (tl b)) (hd : allDig b = true) : b.length ≤ n := by
  have := h [] (tl b) [] (by simp) fun c hc => List.all_eq_true.mp hd c hc
  have a : b.length = (tl b).length := len_list b
  omega
theorem digs_dec (c : Nat) : decide (c ∈ ("0123456789" : Str).cps.toList) = isDig c := by
  have e : ("0123456789" : Str).cps.toList = [48, 49, 50, 51, 52, 53, 54, 55, 56, 57] := by decide +kernel
  rw [e]
  unfold isDig
  rw [Bool.eq_iff_iff, Bool.and_eq_true, decide_eq_true_eq, decide_eq_true_eq, decide_eq_true_eq]
  simp only [List.mem_cons, List.not_mem_nil, or_false]
  omega
theorem lets_dec (c : Nat) : decide (c ∈ ("abcdefghijklmnopqrstuvwxyz" : Str).cps.toList) = isLet c := by
  have e : ("abcdefghijklmnopqrstuvwxyz" : Str).cps.toList = [97, 98, 99, 100, 101, 102, 103, 104, 105, 106, 107, 108, 109, 110, 111, 112, 113, 114, 115, 116, 117, 118, 119, 120, 121, 122] := by decide +kernel
  rw [e]
  unfold isLet
  rw [Bool.eq_iff_iff, Bool.and_eq_true, decide_eq_true_eq, decide_eq_true_eq, decide_eq_true_eq]
  simp only [List.mem_cons, List.not_mem_nil, or_false]
  omega
theorem name_dec (x : Str) : isName x = (decide (0 < x.length) && (decide (x.length < 9) && (tl x).all isLet)) := rfl
end TP

namespace TP
open PySem PySem.Spec PyProof.Rows L2 TL
/-! ### the texts of orders (k14) -/
theorem numL_lt_pow : ∀ n : Nat, n < 10 ^ (numL n).length := by
  intro n
  induction n using Nat.strongRecOn with
  | ind n ih =>
    by_cases h : n < 10
    · rw [numL_lt h]; exact h
    · have h1 := ih (n / 10) (by omega)
      rw [numL_step (by omega), List.length_append, List.length_singleton, Nat.pow_succ]
      omega
theorem join_dr {n : Nat} : ∀ {parts : List (List Nat)}, (∀ p ∈ parts, DR n p) → DR n (joinL [32] parts)
  | [], _ => DR.of_len (Nat.zero_le _)
  | [p], h => h p (List.mem_singleton.mpr rfl)
  | p :: q :: r, h => by
    have ih := join_dr (parts := q :: r) fun z hz => h z (List.mem_cons_of_mem _ hz)
    exact DR.sep (c := 32) (h p List.mem_cons_self) ih rfl
/-- a text that is shown: plain signs, few digits in a row -/
structure TxtOk (n m : Nat) (t : Str) : Prop where
  len : t.length ≤ n
  dig : DR m (tl t)
  asc : ∀ c ∈ tl t, c < 128
theorem join_asc : ∀ {parts : List (List Nat)}, (∀ p ∈ parts, ∀ c ∈ p, c < 128) → ∀ c ∈ joinL [32] parts, c < 128
  | [], _, c, h => by cases h
  | [p], hp, c, h => hp p (List.mem_singleton.mpr rfl) c h
  | p :: q :: r, hp, c, h => by
    have ih := join_asc (parts := q :: r) fun z hz => hp z (List.mem_cons_of_mem _ hz)
    rcases List.mem_append.mp (show c ∈ p ++ ([32] ++ joinL [32] (q :: r)) from h) with h | h
    · exact hp p List.mem_cons_self c h
    · rcases List.mem_append.mp h with h | h
      · rw [List.mem_singleton.mp h]; decide
      · exact ih c h
theorem TxtOk.app {a b : Str} {n m i j : Nat} (ha : TxtOk n i a) (hb : TxtOk m j b) : TxtOk (n + m) (i + j) (a ++ b) := ⟨by rw [app_len]; exact Nat.add_le_add ha.len hb.len, by rw [tl_app]; exact ha.dig.app hb.dig, fun c hc => by
  rw [tl_app] at hc
  rcases List.mem_append.mp hc with h | h
  · exact ha.asc c h
  · exact hb.asc c h⟩
theorem TxtOk.mono {a : Str} {n m i j : Nat} (ha : TxtOk n i a) (h1 : n ≤ m) (h2 : i ≤ j) : TxtOk m j a := ⟨Nat.le_trans ha.len h1, ha.dig.mono h2, ha.asc⟩
theorem TxtOk.cut {a : Str} {n i : Nat} {lo hi : Option Int} (ha : TxtOk n i a) : TxtOk n i (cutS a lo hi) := by
  have e : ∃ j k, tl (cutS a lo hi) = ((tl a).drop j).take k := by
    unfold cutS
    exact ⟨_, _, by first | rfl | simp⟩
  obtain ⟨j, k, e⟩ := e
  refine ⟨Nat.le_trans (cutS_length a lo hi) ha.len, ?_, fun c hc => ?_⟩
  · rw [e]; exact ha.dig.drop.take
  · rw [e] at hc
    exact ha.asc c (List.mem_of_mem_drop (List.mem_of_mem_take hc))
theorem shows_l2 {d e : PyData} (h1 : okD d = true) (h2 : okD e = true) (r : rb d + rb e ≤ 16777000) (p1 : d.depth ≤ 58) (p2 : e.depth ≤ 58) : Shows (.list [d, e]) := ⟨by
  show (okD d && (okD e && true)) = true
  rw [h1, h2]; rfl, by
  show rb d + 2 + (rb e + 2 + 0) + 2 ≤ 16777216
  omega, by
  simp only [PyData.depth, PyData.depthAll]
  omega⟩
theorem bag_show3 {ps : Bag} (h : BagS ps) : okD (bagD ps) = true ∧ rb (bagD ps) ≤ 2100 * ps.length + 3 ∧ (bagD ps).depth ≤ 2 := by
  obtain ⟨a, b, c⟩ := bag_shows_aux ps h
  exact ⟨a, by show rbs (ps.map pairD) + 3 ≤ _; omega, by show PyData.depthAll (ps.map pairD) + 1 ≤ 2; omega⟩
theorem txt_show3 {t : Str} {n m : Nat} (h : TxtOk n m t) : okD (.str t) = true ∧ rb (.str t) ≤ 10 * n + 2 ∧ (PyData.str t).depth ≤ 2 := by
  refine ⟨List.all_eq_true.mpr fun c hc => decide_eq_true (Nat.lt_of_lt_of_le (h.asc c hc) (by decide)), ?_, by simp only [PyData.depth]; omega⟩
  have := h.len
  show 10 * t.length + 2 ≤ _
  omega
theorem sign_ok {c : Nat} (h : c < 128) : TxtOk 1 1 ⟨#[c]⟩ := ⟨Nat.le_refl _, DR.of_len (Nat.le_refl _), fun d hd => by rw [List.mem_singleton.mp hd]; exact h⟩
def okR (n : Nat) : Nat → List Nat → Bool
  | _, [] => true
  | k, c :: r => if isDig c = true then decide (k + 1 ≤ n) && okR n (k + 1) r else okR n 0 r
theorem okR_pre {n : Nat} : ∀ (s q : List Nat) (k : Nat), k ≤ n → okR n k (s ++ q) = true → (∀ c ∈ s, isDig c = true) → k + s.length ≤ n
  | [], q, k, hk, _, _ => hk
  | c :: s, q, k, hk, h, hd => by
    have h : (if isDig c = true then decide (k + 1 ≤ n) && okR n (k + 1) (s ++ q) else okR n 0 (s ++ q)) = true := h
    rw [if_pos (hd c List.mem_cons_self), Bool.and_eq_true, decide_eq_true_eq] at h
    have := okR_pre s q (k + 1) h.1 h.2 fun d hd' => hd d (List.mem_cons_of_mem _ hd')
    rw [List.length_cons]; omega
theorem okR_dr {n : Nat} : ∀ (l : List Nat) (k : Nat), k ≤ n → okR n k l = true → DR n l := by
  have main : ∀ (p s q : List Nat) (k : Nat), k ≤ n → okR n k (p ++ (s ++ q)) = true → (∀ c ∈ s, isDig c = true) → s.length ≤ n := fun p s q => by
    induction p with
    | nil =>
      intro k hk h hs
      have := okR_pre s q k hk h hs
      omega
    | cons c p ih =>
      intro k hk h hs
      have h : (if isDig c = true then decide (k + 1 ≤ n) && okR n (k + 1) (p ++ (s ++ q)) else okR n 0 (p ++ (s ++ q))) = true := h
      split at h
      · rw [Bool.and_eq_true, decide_eq_true_eq] at h
        exact ih (k + 1) h.1 h.2 hs
      · exact ih 0 (Nat.zero_le _) h hs
  intro l k hk h p s q e hs
  rw [e, List.append_assoc] at h
  exact main p s q k hk h hs
def tOk (t : Str) : Bool := decide (t.length ≤ 10000) && (okR 100 0 (tl t) && (tl t).all fun c => decide (c < 128))
end TP

/-! texts of counts: what a text names (k16, k17) -/
namespace TP
open PySem PySem.Spec PyProof.Rows L2 LamX TL
def pairC (w : Str) : Option (Str × Int) :=
  if (Txt.partition w ":").2.1 = Str.empty then none
  else match numT (Txt.partition w ":").2.2 with
    | some n => some ((Txt.partition w ":").1, n)
    | none => none
def scanL : List Str → Option Bag
  | [] => some []
  | w :: r => match pairC w with
    | some q => match scanL r with
      | some rs => some (q :: rs)
      | none => none
    | none => none
def scanT (t : Str) : Option Bag := scanL (wordsT t)
theorem scanL_app : ∀ (a b : List Str), scanL (a ++ b) = match scanL a with
    | some rs => match scanL b with
      | some qs => some (rs ++ qs)
      | none => none
    | none => none
  | [], b => by
    show scanL b = match scanL b with
      | some qs => some ([] ++ qs)
      | none => none
    cases scanL b <;> rfl
  | w :: a, b => by
    have ih := scanL_app a b
    show (match pairC w with
      | some q => match scanL (a ++ b) with
        | some rs => some (q :: rs)
        | none => none
      | none => none) = _
    rw [ih]
    show _ = match (match pairC w with
      | some q => match scanL a with
        | some rs => some (q :: rs)
        | none => none
      | none => none) with
      | some rs => _
      | none => none
    cases pairC w with
    | none => rfl
    | some q =>
      cases scanL a with
      | none => rfl
      | some rs => cases scanL b <;> rfl
theorem scanL_snoc {a : List Str} {w : Str} {rs : Bag} {q : Str × Int} (h : scanL a = some rs) (e : pairC w = some q) : scanL (a ++ [w]) = some (rs ++ [q]) := by
  rw [scanL_app, h]
  show (match (match pairC w with
    | some q => some [q]
    | none => none) with
    | some qs => some (rs ++ qs)
    | none => none) = _
  rw [e]
theorem scanL_bad {ws : List Str} {i : Nat} {w : Str} (e : ws[i]? = some w) (h : pairC w = none) : scanL ws = none := by
  obtain ⟨hi, e2⟩ := List.getElem?_eq_some_iff.mp e
  have es : ws = ws.take i ++ (w :: ws.drop (i + 1)) := by
    rw [← e2, List.getElem_cons_drop, List.take_append_drop]
  have hb : scanL (w :: ws.drop (i + 1)) = none := by
    show (match pairC w with
      | some q => match scanL (ws.drop (i + 1)) with
        | some rs => some (q :: rs)
        | none => none
      | none => none) = none
    rw [h]
  rw [es, scanL_app, hb]
  cases scanL (ws.take i) <;> rfl
theorem scanL_mem : ∀ {ws : List Str} {rs : Bag}, scanL ws = some rs → rs.length = ws.length ∧ ∀ q ∈ rs, ∃ w ∈ ws, pairC w = some q
  | [], rs, h => by cases h; exact ⟨rfl, nofun⟩
  | w :: r, rs, h => by
    have h : (match pairC w with
      | some q => match scanL r with
        | some rs => some (q :: rs)
        | none => none
      | none => none) = some rs := h
    cases hw : pairC w with
    | none => rw [hw] at h; cases h
    | some q0 =>
      rw [hw] at h
      cases hr : scanL r with
      | none => rw [hr] at h; cases h
      | some rs2 =>
        rw [hr] at h
        cases h
        obtain ⟨i1, i2⟩ := scanL_mem hr
        refine ⟨by rw [List.length_cons, List.length_cons, i1], fun q hq => ?_⟩
        rcases List.mem_cons.mp hq with rfl | hq
        · exact ⟨w, List.mem_cons_self, hw⟩
        · obtain ⟨w2, h1, h2⟩ := i2 q hq
          exact ⟨w2, List.mem_cons_of_mem _ h1, h2⟩
theorem partC_dr {n : Nat} {w : Str} (h : DR n (tl w)) : DR n (tl (Txt.partition w ":").2.2) := by
  have e := StrLaws.partition_sum w ":"
  have e2 := congrArg tl e
  rw [tl_app] at e2
  exact h.sub (a := tl ((Txt.partition w ":").1 ++ (Txt.partition w ":").2.1)) (c := []) (by rw [← e2]; simp)
theorem partC_len (w : Str) : (Txt.partition w ":").1.length ≤ w.length ∧ (Txt.partition w ":").2.2.length ≤ w.length := by
  have e := congrArg Str.length (StrLaws.partition_sum w ":")
  rw [app_len, app_len] at e
  omega
theorem partC_mark (w : Str) : (Txt.partition w ":").2.1 = Str.empty ∨ (Txt.partition w ":").2.1 = ":" := by
  rw [partition_par w ":" (by decide +kernel)]
  split
  · exact .inr rfl
  · exact .inl rfl
theorem numT_nn {b : Str} {n : Int} (h : numT b = some n) (hl : b.length ≤ 640) : 0 ≤ n := by
  cases hk : okN b with
  | false => rw [num_no hk] at h; cases h
  | true =>
    obtain ⟨m, h1, h2, h3⟩ := num_ok hk hl
    rw [h] at h2
    cases Option.some.inj h2
    rcases h3 with ⟨_, e⟩ | ⟨e, _⟩ <;> omega
theorem numT_dig {b : Str} {n : Int} (h : numT b = some n) : allDig b = true := by
  cases hk : okN b with
  | false => rw [num_no hk] at h; cases h
  | true =>
    unfold okN at hk
    rw [Bool.and_eq_true, Bool.and_eq_true] at hk
    exact hk.2.1
theorem pairC_inv {w : Str} {q : Str × Int} (h : pairC w = some q) : q.1 = (Txt.partition w ":").1 ∧ (Txt.partition w ":").2.1 = ":" ∧ numT (Txt.partition w ":").2.2 = some q.2 := by
  unfold pairC at h
  split at h
  · cases h
  · rename_i hm
    split at h
    · rename_i n e
      cases h
      exact ⟨rfl, (partC_mark w).resolve_left hm, e⟩
    · cases h
theorem scan_name {t : Str} {rs : Bag} (h : scanT t = some rs) (hd : DR 640 (tl t)) : ∀ q ∈ rs, q.1.length ≤ t.length ∧ 0 ≤ q.2 := fun q hq => by
  obtain ⟨w, h1, h2⟩ := (scanL_mem h).2 q hq
  obtain ⟨h3, _, h4⟩ := pairC_inv h2
  have h5 := (partC_len w).1
  have h6 := word_len h1
  rw [h3]
  exact ⟨by omega, numT_nn h4 (dr_num (partC_dr (word_dr hd h1)) (numT_dig h4))⟩
theorem ptS_short {p : Str × Int} (h : isName p.1 = true) (h0 : 0 ≤ p.2) (h1 : p.2 ≤ 10 ^ 100) : (ptS p).length ≤ 110 := by
  have hl := isName_len h
  have e1 : Str.length (":" : Str) = 1 := by decide +kernel
  have hi := int_short h0 h1
  unfold ptS
  rw [app_len, app_len]
  omega
theorem pt_asc {p : Str × Int} (h : isName p.1 = true) (h0 : 0 ≤ p.2) : ∀ c ∈ tl (ptS p), c < 128 := fun c hc => by
  unfold ptS at hc
  rw [tl_app, tl_app, List.mem_append, List.mem_append] at hc
  rcases hc with (hc | hc) | hc
  · have := tl_name h c hc; omega
  · have : tl (":" : Str) = [58] := by decide +kernel
    rw [this] at hc
    rw [List.mem_singleton.mp hc]; decide
  · rw [tl_intS h0] at hc
    have := digit_range hc; omega
theorem cText_ok {ps : Bag} (h : ∀ p ∈ ps, isName p.1 = true ∧ 0 ≤ p.2 ∧ p.2 ≤ 10 ^ 100) : TxtOk (111 * ps.length + 1) 110 (cText ps) := by
  by_cases h0 : ps = []
  · subst h0
    exact ⟨by decide +kernel, DR.of_len (by decide +kernel), by decide +kernel⟩
  have e : cText ps = Str.join " " (ps.map ptS) := by unfold cText; rw [if_neg h0, txt_join_eq]
  have e2 : tl (cText ps) = joinL [32] ((ps.map ptS).map tl) := by
    rw [e, TL.tl_join]
    rw [show tl (" " : Str) = [32] from by decide +kernel]
  refine ⟨?_, ?_, ?_⟩
  · rw [e]
    refine Nat.le_trans (StrLaws.join_length_le _ _) ?_
    have e1 : Str.length (" " : Str) = 1 := by decide +kernel
    rw [e1]
    clear h0 e e2
    induction ps with
    | nil => simp
    | cons p r ih =>
      have h2 := ih fun q hq => h q (List.mem_cons_of_mem _ hq)
      obtain ⟨a, b, c⟩ := h p List.mem_cons_self
      have := ptS_short a b c
      rw [List.map_cons, List.map_cons, List.sum_cons, List.length_cons, List.length_cons]
      omega
  · rw [e2]
    refine join_dr fun q hq => ?_
    obtain ⟨w, hw, rfl⟩ := List.mem_map.mp hq
    obtain ⟨p, hp, rfl⟩ := List.mem_map.mp hw
    obtain ⟨a, b, c⟩ := h p hp
    have := ptS_short a b c
    exact DR.of_len (by rw [← len_tl]; exact this)
  · rw [e2]
    refine join_asc fun z hz => ?_
    obtain ⟨x, hx, rfl⟩ := List.mem_map.mp hz
    obtain ⟨p, hp, rfl⟩ := List.mem_map.mp hx
    obtain ⟨a, b, _⟩ := h p hp
    exact pt_asc a b
theorem pairD_inj : ∀ {ps qs : Bag}, ps.map pairD = qs.map pairD → ps = qs
  | [], [], _ => rfl
  | [], q :: qs, h => by cases h
  | p :: ps, [], h => by cases h
  | (a, b) :: ps, (c, d) :: qs, h => by
    rw [List.map_cons, List.map_cons] at h
    obtain ⟨h1, h2⟩ := List.cons.inj h
    have h1 : PyData.tuple [.str a, .int b] = .tuple [.str c, .int d] := h1
    injection h1 with h1
    injection h1 with h3 h4
    injection h4 with h4 _
    injection h3 with h3
    injection h4 with h4
    rw [pairD_inj h2, h3, h4]
/-- counts, told by the check -/
theorem ver_bag {ps : Bag} {m : Int} (h : verOk (badF m) (bagD ps) = true) : BagOk ps ∧ ((ps.length : Int) ≤ m ∨ ps = []) := by
  have h : (firstBad (ps.map pairD) m).isNone = true := h
  obtain ⟨qs, e, h1, h2⟩ := bad_inv (Option.isNone_iff_eq_none.mp h)
  cases pairD_inj e
  exact ⟨h1, h2⟩
theorem sz_scan {t : Str} {ps : Bag} (h : scanT t = some ps) (hd : DR 640 (tl t)) (hl : t.length ≤ 80000) : szD (bagD ps) = true := by
  refine szDs_all fun d hd' => ?_
  obtain ⟨q, hq, rfl⟩ := List.mem_map.mp hd'
  have := (scan_name h hd q hq).1
  show (szD (.str q.1) && (szD (.int q.2) && true)) = true
  rw [show szD (.str q.1) = true from decide_eq_true (by omega)]
  rfl
/-- the counts of a text, at most m pairs -/
def cntT (m : Int) (t : Str) : Option Bag := match scanT t with
  | some ps => if verOk (badF m) (bagD ps) = true then some ps else none
  | none => none
def scanD : PyData → Option Bag
  | .str t => scanT t
  | _ => none
def cntD (m : Int) : PyData → Option Bag
  | .str t => cntT m t
  | _ => none
def txtD : PyData → Prop
  | .str t => t.length ≤ 80000 ∧ DR 640 (tl t)
  | _ => True
def ScanV (K : PySem.W.Frag) (H : Hp) (v : V) : Option Bag → Prop
  | some ps => Dx K H v (bagD ps)
  | none => v = .non
theorem ScanV.data {K : PySem.W.Frag} {H : Hp} {v : V} {d : PyData} (h : ScanV K H v (scanD d)) (ht : txtD d) : ∃ e, Dx K H v e ∧ szD e = true ∧ ∀ m, (verOk (badF m) e = true → ∃ ps, e = bagD ps ∧ BagOk ps ∧ ((ps.length : Int) ≤ m ∨ ps = []) ∧ cntD m d = some ps) ∧ (verOk (badF m) e = false → cntD m d = none) := by
  have no : ∀ d, scanD d = none → ∀ m, cntD m d = none := fun d e m => by
    cases d with
    | str t =>
      have e : scanT t = none := e
      show cntT m t = none
      unfold cntT
      rw [e]
    | _ => rfl
  cases e : scanD d with
  | none =>
    rw [e] at h
    have h : v = .non := h
    subst h
    exact ⟨.none, .non, rfl, fun m => ⟨(fun z => by cases z), fun _ => no d e m⟩⟩
  | some ps =>
    rw [e] at h
    have h : Dx K H v (bagD ps) := h
    cases d with
    | str t =>
      have e : scanT t = some ps := e
      refine ⟨bagD ps, h, sz_scan e ht.2 ht.1, fun m => ⟨fun z => ?_, fun z => ?_⟩⟩
      · obtain ⟨h1, h2⟩ := ver_bag z
        refine ⟨ps, rfl, h1, h2, ?_⟩
        show cntT m t = some ps
        unfold cntT
        rw [e]
        exact if_pos z
      · show cntT m t = none
        unfold cntT
        rw [e]
        exact if_neg (by rw [z]; decide)
    | _ => cases e
/-- try: return C(e, ..) / except x: suite -/
theorem ps_try_mk {X : Cx} {k n : Nat} {C q x : Str} {st : Stmt} {dvs : List V} {ps : List Str} {js : List Nat} {sp : Sp} {fs : List Str} {p rpos np pos pos' cpos : Pos} {e : Expr} {es : List Expr} {t : TA} {c : Value} {suite : List Stmt} {b₀ : Stmt} {ts : Addr → Value → Option Addr → TS} (K : PySem.W.Frag)
    (c0 : ClsF X.K X.mg C fs) (F : HasM X.prog X.w X.K X.mg X.base (L2.CX X.prog X.w) k C "__init__" q st dvs ps sp) (hb : BindJ "__init__" q st ps dvs.length (n + 1) [] js) (hr : Room (k + 1) X.A) (hg : X.A.guards = some []) (hgl : Gl X C) {t1 : List (Addr × Obj) → (Value → Shared → Prop) → TA} (ha : ∀ (pn : List (Addr × Obj)) (xe : Value → Shared → Prop), PA (X.tr pn xe) (e :: es) (t1 pn xe)) (ht : ∀ (pn : List (Addr × Obj)) (xe : Value → Shared → Prop), t1 pn xe = t)
    (hs : X.stack = X.env :: X.outer) (hf : X.env.frame = some X.env.locals) (hc : Names X x c)
    (hsu : ∀ (a : Addr) (oe : Obj) (cls : Value) (d : Option Addr) (pn : List (Addr × Obj)), Zc cls d oe → (∃ vs, oe.data = .fields vs) → PSs (X.suite a ((a, oe) :: pn)) (b₀ :: suite) (ts a cls d))
    (hdb : (C == ("__debug__" : Str)) = false := by decide) (he : starEach (e :: es) X.env = (false, eval e X.env) :: starEach es X.env := by rfl) (hpl : (backTo cpos (starEach es X.env)).any (·.1) = false := by rfl) (hK : X.K = K := by rfl) :
    PS X (.Try [.Return (some (.Call (.Name C p) (e :: es) [] cpos)) rpos] [.ExceptHandler (some (.Name x np)) none (b₀ :: suite) pos'] [] [] pos)
      (fun D σ H => tRet (tMkN (He.ga K C) sp n 0 js dvs (fun cls d H' => ∀ σ', wOnly X.K c ts (fun _ _ _ _ => False) D cls d σ' H') t tNil) D σ H) := by
  subst hK
  exact ps_try_only (tb := fun W => tRet (tMkN (He.ga X.K C) sp n 0 js dvs (fun cls d H' => ∀ σ', W cls d σ' H') t tNil)) hs hf hc L2.takes0 (fun W pn xe tk _ => pss_one (ps_ret (pe_mk (X := X.tr pn xe) c0 F hb hr hg hgl (passes_call tk fun cls d σ' H' h => h σ') (by rw [← ht pn xe]; exact ha pn xe) hdb he hpl))) hsu
end TP

/-! the law's own reader of texts of counts (k17) -/
namespace TP
open PySem PySem.Spec PyProof.Rows L2 LamX TL
theorem tl_colon : tl (":" : Str) = [58] := by decide +kernel
theorem splitC_no {w : Str} (h : 58 ∉ tl w) : Txt.split w ":" = [w] := by
  refine map_tl_inj ?_
  rw [split_spl _ _ (by rw [tl_colon]; simp) (kind_ok (by decide +kernel)), tl_colon, spl_last1 h, List.nil_append]
  rfl
theorem splitC_at {a b : Str} (h : 58 ∉ tl a) : Txt.split (a ++ (":" : Str) ++ b) ":" = a :: Txt.split b ":" := by
  refine map_tl_inj ?_
  rw [split_spl _ _ (by rw [tl_colon]; simp) (kind_ok (by decide +kernel)), List.map_cons, split_spl b _ (by rw [tl_colon]; simp) (kind_ok (by decide +kernel)), tl_colon, tl_app, tl_app, tl_colon, List.append_assoc]
  have := spl_part1 (s := 58) (S := []) (p := tl a) (rest := tl b) (acc := []) h
  rw [List.nil_append] at this
  exact this
theorem col_case (w : Str) : (58 ∉ tl w ∧ Txt.split w ":" = [w] ∧ pairC w = none) ∨ ∃ a b : Str, 58 ∉ tl a ∧ w = a ++ (":" : Str) ++ b ∧ Txt.split w ":" = a :: Txt.split b ":" ∧ pairC w = match numT b with
    | some n => some (a, n)
    | none => none := by
  by_cases h : 58 ∈ tl w
  · obtain ⟨as, bs, e, hn⟩ := List.eq_append_cons_of_mem h
    refine .inr ⟨⟨as.toArray⟩, ⟨bs.toArray⟩, ?_, ?_⟩
    · show 58 ∉ as.toArray.toList
      simpa using hn
    have ha : 58 ∉ tl (⟨as.toArray⟩ : Str) := by show 58 ∉ as.toArray.toList; simpa using hn
    have ew : w = (⟨as.toArray⟩ : Str) ++ (":" : Str) ++ (⟨bs.toArray⟩ : Str) := str_tl (by
      rw [tl_app, tl_app, tl_colon, e]
      show as ++ 58 :: bs = as.toArray.toList ++ [58] ++ bs.toArray.toList
      simp)
    refine ⟨ew, by rw [ew]; exact splitC_at ha, ?_⟩
    rw [ew]
    unfold pairC
    rw [partition_app (y := ":") tl_colon ha]
    exact if_neg (show ¬ (":" : Str) = Str.empty by decide +kernel)
  · refine .inl ⟨h, splitC_no h, ?_⟩
    unfold pairC
    rw [partition_none (y := ":") tl_colon h]
    exact if_pos rfl
def pairP (w : Str) : Option (Str × Int) := match pairC w with
  | some q => if isName q.1 = true ∧ 1 ≤ q.2 then some q else none
  | none => none
theorem pairP_none {w : Str} (h : pairC w = none) : pairP w = none := by unfold pairP; rw [h]
theorem numT_colon {b : Str} (h : 58 ∈ tl b) : numT b = none := by
  cases e : numT b with
  | none => rfl
  | some n =>
    have := List.all_eq_true.mp (numT_dig e) 58 h
    cases this
theorem split_two {b : Str} (h : 58 ∈ tl b) : 2 ≤ (Txt.split b ":").length := by
  rcases col_case b with ⟨h1, _⟩ | ⟨x, y, _, _, e, _⟩
  · exact absurd h h1
  · rw [e, List.length_cons]
    rcases col_case y with ⟨_, e2, _⟩ | ⟨u, v, _, _, e2, _⟩
    · rw [e2]; exact Nat.le_refl 2
    · rw [e2, List.length_cons]; omega
section
variable {w a b : Str}
theorem pairP_at (h : pairC w = match numT b with
    | some n => some (a, n)
    | none => none) : pairP w = match numT b with
    | some n => if isName a = true ∧ 1 ≤ n then some (a, n) else none
    | none => none := by
  unfold pairP
  rw [h]
  cases numT b <;> rfl
theorem pairP_name (h : pairC w = match numT b with
    | some n => some (a, n)
    | none => none) (hn : isName a = false) : pairP w = none := by
  rw [pairP_at h]
  cases numT b with
  | none => rfl
  | some n => exact if_neg (by rw [hn]; rintro ⟨z, _⟩; cases z)
theorem pairP_num (h : pairC w = match numT b with
    | some n => some (a, n)
    | none => none) (hn : numT b = none) : pairP w = none := by
  rw [pairP_at h, hn]
theorem pairP_zero (h : pairC w = match numT b with
    | some n => some (a, n)
    | none => none) (h0 : (tl b).head? = some 48) (hl : b.length ≤ 640) : pairP w = none := by
  rw [pairP_at h]
  cases e : numT b with
  | none => rfl
  | some n =>
    refine if_neg fun z => ?_
    cases hk : okN b with
    | false => rw [num_no hk] at e; cases e
    | true =>
      obtain ⟨m, h1, h2, h3⟩ := num_ok hk hl
      rw [e] at h2
      cases Option.some.inj h2
      rcases h3 with ⟨_, q⟩ | ⟨_, _, q, _⟩
      · omega
      · exact q h0
theorem pairP_good (h : pairC w = match numT b with
    | some n => some (a, n)
    | none => none) (hn : isName a = true) (hb : b ≠ "") (h0 : (tl b).head? ≠ some 48) (hd : allDig b = true) (hl : b.length ≤ 640) : ∃ n, intText? b = some n ∧ pairP w = some (a, n) := by
  have hk : okN b = true := by
    unfold okN
    rw [decide_eq_false hb, hd, decide_eq_false h0]; rfl
  obtain ⟨n, h1, h2, h3⟩ := num_ok hk hl
  refine ⟨n, h1, ?_⟩
  rw [pairP_at h, h2]
  refine if_pos ⟨hn, ?_⟩
  rcases h3 with ⟨e, _⟩ | ⟨e, _⟩
  · rw [e] at h0
    exact absurd (by decide +kernel) h0
  · exact e
end
/-- what one word tells when the whole text is counts -/
theorem due_step {t w : Str} {i : Nat} {ps all : Bag} (h : cntT 12 t = some all) (e : (wordsT t)[i]? = some w) (hs : scanL ((wordsT t).take i) = some ps) : ∃ q rest, pairC w = some q ∧ all = ps ++ q :: rest ∧ BagOk all ∧ all.length ≤ 12 := by
  unfold cntT at h
  cases hc : scanT t with
  | none => rw [hc] at h; cases h
  | some al =>
    rw [hc] at h
    have h : (if verOk (badF 12) (bagD al) = true then some al else none) = some all := h
    cases hv : verOk (badF 12) (bagD al) with
    | false => rw [hv] at h; cases h
    | true =>
      rw [hv] at h
      cases Option.some.inj h
      obtain ⟨hi, e2⟩ := List.getElem?_eq_some_iff.mp e
      have es : wordsT t = (wordsT t).take i ++ (w :: (wordsT t).drop (i + 1)) := by
        rw [← e2, List.getElem_cons_drop, List.take_append_drop]
      have hc : scanL (wordsT t) = some all := hc
      rw [es, scanL_app, hs] at hc
      have hc : (match scanL (w :: (wordsT t).drop (i + 1)) with
        | some qs => some (ps ++ qs)
        | none => none) = some all := hc
      cases hw : pairC w with
      | none =>
        have : scanL (w :: (wordsT t).drop (i + 1)) = none := by
          show (match pairC w with
            | some q => match scanL ((wordsT t).drop (i + 1)) with
              | some rs => some (q :: rs)
              | none => none
            | none => none) = none
          rw [hw]
        rw [this] at hc
        cases hc
      | some q =>
        cases hr : scanL ((wordsT t).drop (i + 1)) with
        | none =>
          have : scanL (w :: (wordsT t).drop (i + 1)) = none := by
            show (match pairC w with
              | some q => match scanL ((wordsT t).drop (i + 1)) with
                | some rs => some (q :: rs)
                | none => none
              | none => none) = none
            rw [hw, hr]
          rw [this] at hc
          cases hc
        | some rs =>
          have : scanL (w :: (wordsT t).drop (i + 1)) = some (q :: rs) := by
            show (match pairC w with
              | some q => match scanL ((wordsT t).drop (i + 1)) with
                | some rs => some (q :: rs)
                | none => none
              | none => none) = _
            rw [hw, hr]
          rw [this] at hc
          have hc : some (ps ++ q :: rs) = some all := hc
          refine ⟨q, rs, rfl, (Option.some.inj hc).symm, ?_⟩
          obtain ⟨h1, h2⟩ := ver_bag hv
          refine ⟨h1, ?_⟩
          rcases h2 with h2 | h2
          · omega
          · rw [h2]; decide
theorem dueC_no {t w : Str} {i : Nat} {ps : Bag} (e : (wordsT t)[i]? = some w) (hs : scanL ((wordsT t).take i) = some ps) (hb : pairP w = none ∨ (∃ q p, pairP w = some q ∧ p ∈ ps ∧ ¬ ltS p.1 q.1) ∨ 12 ≤ ps.length) : cntT 12 t = none := by
  cases h : cntT 12 t with
  | none => rfl
  | some all =>
    exfalso
    obtain ⟨q, rest, h1, rfl, h2, h3⟩ := due_step h e hs
    rcases hb with hb | ⟨q', p, hb, hp, hlt⟩ | hb
    · unfold pairP at hb
      rw [h1] at hb
      have hq : q ∈ ps ++ q :: rest := List.mem_append.mpr (.inr List.mem_cons_self)
      have hb : (if isName q.1 = true ∧ 1 ≤ q.2 then some q else none) = none := hb
      rw [if_pos ⟨h2.nam q hq, h2.pos q hq⟩] at hb
      cases hb
    · unfold pairP at hb
      rw [h1] at hb
      have hb : (if isName q.1 = true ∧ 1 ≤ q.2 then some q else none) = some q' := hb
      split at hb
      · cases Option.some.inj hb
        have := h2.asc
        rw [List.pairwise_append] at this
        exact hlt (this.2.2 p hp q List.mem_cons_self)
      · cases hb
    · rw [List.length_append, List.length_cons] at h3
      omega
theorem pairP_inv {w : Str} {q : Str × Int} (h : pairP w = some q) : pairC w = some q ∧ isName q.1 = true ∧ 1 ≤ q.2 := by
  unfold pairP at h
  cases e : pairC w with
  | none => rw [e] at h; cases h
  | some q0 =>
    rw [e] at h
    have h : (if isName q0.1 = true ∧ 1 ≤ q0.2 then some q0 else none) = some q := h
    split at h
    · rename_i hh
      cases Option.some.inj h
      exact ⟨rfl, hh.1, hh.2⟩
    · cases h
theorem due_yes {t : Str} {ps : Bag} (hs : scanL (wordsT t) = some ps) (hb : BagOk ps) (hl : ps.length ≤ 12) : cntT 12 t = some ps := by
  unfold cntT
  rw [show scanT t = some ps from hs]
  refine if_pos ?_
  show (firstBad (ps.map pairD) 12).isNone = true
  rw [bag_good hb (by omega)]; rfl
theorem bag_snocX {ps : Bag} {q : Str × Int} (h : BagOk ps) (hn : isName q.1 = true) (h1 : 1 ≤ q.2) (ha : ps = [] ∨ ∃ r p, ps = r ++ [p] ∧ ltS p.1 q.1) : BagOk (ps ++ [q]) := by
  refine ⟨?_, fun p hp => ?_, fun p hp => ?_⟩
  · rw [List.pairwise_append]
    refine ⟨h.asc, List.pairwise_singleton _ _, fun a ha' b hb => ?_⟩
    rw [List.mem_singleton.mp hb]
    rcases ha with e | ⟨r, p, e, hlt⟩
    · rw [e] at ha'; cases ha'
    · have hasc := h.asc
      rw [e] at ha' hasc
      rcases List.mem_append.mp ha' with z | z
      · rw [List.pairwise_append] at hasc
        exact ltS_trans (hasc.2.2 a z p List.mem_cons_self) hlt
      · rw [List.mem_singleton.mp z]; exact hlt
  · rcases List.mem_append.mp hp with z | z
    · exact h.nam p z
    · rw [List.mem_singleton.mp z]; exact hn
  · rcases List.mem_append.mp hp with z | z
    · exact h.pos p z
    · rw [List.mem_singleton.mp z]; exact h1
/-- counts of a text are good ones; narrower lids -/
theorem cntT_inv {t : Str} {m : Int} {ps : Bag} (h : cntT m t = some ps) : scanT t = some ps ∧ BagOk ps ∧ ((ps.length : Int) ≤ m ∨ ps = []) := by
  unfold cntT at h
  cases hc : scanT t with
  | none => rw [hc] at h; cases h
  | some al =>
    rw [hc] at h
    have h : (if verOk (badF m) (bagD al) = true then some al else none) = some ps := h
    cases hv : verOk (badF m) (bagD al) with
    | false => rw [hv] at h; cases h
    | true =>
      rw [hv] at h
      cases Option.some.inj h
      exact ⟨rfl, ver_bag hv⟩
theorem cntT_le {t : Str} {m : Int} {ps : Bag} (h : cntT 12 t = some ps) (hm : (ps.length : Int) ≤ m) : cntT m t = some ps := by
  obtain ⟨h1, h2, _⟩ := cntT_inv h
  unfold cntT
  rw [h1]
  refine if_pos ?_
  show (firstBad (ps.map pairD) m).isNone = true
  rw [bag_good h2 hm]; rfl
theorem cntT_gt {t : Str} {m : Int} {ps : Bag} (h : cntT 12 t = some ps) (h0 : 0 ≤ m) (hm : m < ps.length) : cntT m t = none := by
  cases e : cntT m t with
  | none => rfl
  | some qs =>
    obtain ⟨h1, _⟩ := cntT_inv h
    obtain ⟨h2, _, h3⟩ := cntT_inv e
    rw [h1] at h2
    cases Option.some.inj h2
    rcases h3 with h3 | h3
    · omega
    · rw [h3] at hm
      have : m < ((0 : Nat) : Int) := hm
      omega
theorem cntT_none {t : Str} {m : Int} (h : cntT 12 t = none) (hm : m ≤ 12) : cntT m t = none := by
  cases e : cntT m t with
  | none => rfl
  | some qs =>
    obtain ⟨h2, h4, h3⟩ := cntT_inv e
    have hl : (qs.length : Int) ≤ 12 := by
      rcases h3 with h3 | h3
      · omega
      · rw [h3]; decide
    have : cntT 12 t = some qs := due_yes h2 h4 (by omega)
    rw [h] at this
    cases this
theorem cntT_big {t : Str} {ps : Bag} {n : Nat} (h : cntT 12 t = some ps) (hd : DR n (tl t)) (hn : n ≤ 640) : ∀ p ∈ ps, p.2.toNat < 10 ^ n := fun p hp => by
  obtain ⟨h1, h2, _⟩ := cntT_inv h
  obtain ⟨w, hw, e⟩ := (scanL_mem h1).2 p hp
  obtain ⟨_, _, h4⟩ := pairC_inv e
  have hl := dr_num (partC_dr (word_dr hd hw)) (numT_dig h4)
  cases hk : okN (Txt.partition w ":").2.2 with
  | false => rw [num_no hk] at h4; cases h4
  | true =>
    obtain ⟨m, k1, k2, k3⟩ := num_ok hk (by omega)
    rw [h4] at k2
    cases Option.some.inj k2
    have := h2.pos p hp
    rcases k3 with ⟨_, q⟩ | ⟨_, eb, _⟩
    · omega
    · have l1 := numL_lt_pow p.2.toNat
      have l3 : (numL p.2.toNat).length ≤ n := by
        rw [← tl_intS (by omega), ← eb, ← len_tl]; exact hl
      exact Nat.lt_of_lt_of_le l1 (Nat.pow_le_pow_right (by decide) l3)
theorem ptS_30 {p : Str × Int} (h : isName p.1 = true) (h0 : 0 ≤ p.2) (h1 : p.2 ≤ 10 ^ 30) : (ptS p).length ≤ 40 := by
  have hl := isName_len h
  have e1 : Str.length (":" : Str) = 1 := by decide +kernel
  have hi : (intS p.2).length ≤ 31 := by
    rw [len_list]
    show (tl (intS p.2)).length ≤ 31
    rw [tl_intS h0]
    refine numL_len (by decide) ?_
    have h2 : p.2.toNat ≤ 10 ^ 30 := by
      have e : ((10 ^ 30 : Nat) : Int) = 10 ^ 30 := by rw [Int.natCast_pow]; rfl
      omega
    exact Nat.lt_of_le_of_lt h2 (by decide)
  unfold ptS
  rw [app_len, app_len]
  omega
theorem cText_30 {ps : Bag} (h : ∀ p ∈ ps, isName p.1 = true ∧ 0 ≤ p.2 ∧ p.2 ≤ 10 ^ 30) (hl : ps.length ≤ 12) : TxtOk 1400 40 (cText ps) := by
  have k := cText_ok fun p hp => ⟨(h p hp).1, (h p hp).2.1, Int.le_trans (h p hp).2.2 (by decide)⟩
  refine ⟨by have := k.len; omega, ?_, k.asc⟩
  by_cases h0 : ps = []
  · subst h0
    exact DR.of_len (by decide +kernel)
  have e : cText ps = Str.join " " (ps.map ptS) := by unfold cText; rw [if_neg h0, txt_join_eq]
  have e2 : tl (cText ps) = joinL [32] ((ps.map ptS).map tl) := by
    rw [e, TL.tl_join]
    rw [show tl (" " : Str) = [32] from by decide +kernel]
  rw [e2]
  refine join_dr fun q hq => ?_
  obtain ⟨w, hw, rfl⟩ := List.mem_map.mp hq
  obtain ⟨p, hp, rfl⟩ := List.mem_map.mp hw
  obtain ⟨a, b, c⟩ := h p hp
  have := ptS_30 a b c
  exact DR.of_len (by rw [← len_tl]; exact this)
/-- the longest row of digits, and the last one, of what was read -/
def RowI (l : List Nat) (g m : Nat) : Prop := DR g l ∧ ∀ p s, l = p ++ s → (∀ c ∈ s, isDig c = true) → s.length ≤ m
theorem rowI_nil : RowI [] 0 0 := ⟨DR.of_len (Nat.le_refl 0), fun p s e _ => by
  have := congrArg List.length e
  rw [List.length_append] at this
  have h0 : ([] : List Nat).length = 0 := rfl
  omega⟩
theorem rowI_snoc {l : List Nat} {g m c : Nat} (h : RowI l g m) : RowI (l ++ [c]) (max g (if isDig c = true then m + 1 else 0)) (if isDig c = true then m + 1 else 0) := by
  have key : ∀ p s, l ++ [c] = p ++ s → (∀ c ∈ s, isDig c = true) → s.length ≤ (if isDig c = true then m + 1 else 0) := fun p s e hs => by
    rcases List.eq_nil_or_concat s with rfl | ⟨s', d, rfl⟩
    · exact Nat.zero_le _
    · rw [List.concat_eq_append, ← List.append_assoc] at e
      obtain ⟨e1, e2⟩ := List.append_inj' e rfl
      cases e2
      rw [List.concat_eq_append] at hs ⊢
      rw [if_pos (hs c (List.mem_append.mpr (.inr List.mem_cons_self))), List.length_append]
      have := h.2 p s' e1 fun d hd => hs d (List.mem_append.mpr (.inl hd))
      have e0 : [c].length = 1 := rfl
      omega
  refine ⟨fun p s q e hs => ?_, key⟩
  rcases List.eq_nil_or_concat q with rfl | ⟨q', d, rfl⟩
  · rw [List.append_nil] at e
    exact Nat.le_trans (key p s e hs) (Nat.le_max_right _ _)
  · rw [List.concat_eq_append, ← List.append_assoc] at e
    obtain ⟨e1, _⟩ := List.append_inj' e rfl
    exact Nat.le_trans (h.1 p s q' e1 hs) (Nat.le_max_left _ _)
end TP


namespace TP
open PySem PySem.Spec PyProof.Rows L2 LamX
local macro_rules | `(tactic| tm_at "side") => `(tactic| first | decide | omega | assumption | (unfold CMul; omega) | (unfold CDiv; omega) | (unfold CPow; omega))
local macro_rules | `(tactic| tm_at "heap") => `(tactic| first | assumption | exact upd_same | (refine hp_new ?_ (by assumption); tm_at "heap") | (refine hp_same (by assumption) ?_; tm_at "heap"))
local macro_rules | `(tactic| tm_at "same") => `(tactic| first | assumption | exact Same.refl _ | (refine same_step ?_ (by assumption); tm_at "same") | (refine Same.trans ?_ (by assumption); tm_at "same"))
local macro_rules | `(tactic| tm_at "sqt") => `(tactic| first | assumption | (refine SqT.of ?_; tm_at "heap") | (refine sqt_same (same_new (by assumption)) ?_; tm_at "sqt") | (refine sqt_same (by assumption) ?_; tm_at "sqt"))
local macro_rules | `(tactic| tm_at "sql") => `(tactic| first | assumption | (refine SqL.of ?_; tm_at "heap") | (refine Same.seq (same_new (by assumption)) ?_; tm_at "sql") | (refine Same.seq (by assumption) ?_; tm_at "sql"))
local macro_rules | `(tactic| tm_at "dp") => `(tactic| first | assumption | exact Dp.int _ | exact Dp.str _ | exact Dp.bl _ | exact Dp.non | (refine dp_same (same_new (by assumption)) ?_; tm_at "dp") | (refine dp_same (by assumption) ?_; tm_at "dp"))
local macro_rules | `(tactic| tm_at "sumo") => `(tactic| first | assumption | (refine sum_same (same_new (by assumption)) ?_; tm_at "sumo") | (refine sum_same (by assumption) ?_; tm_at "sumo"))
local macro_rules | `(tactic| tm_at "h") => `(tactic| with_reducible first | (exact SqL.of (by with_reducible_and_instances tm_at "heap")) | tm_at "heap" | tm_at "dp" | tm_at "sumo" | tm_at "sql" | tm_at "sqt" | tm_at "same")
local macro_rules | `(tactic| tm_at "wp1") => `(tactic| with_reducible first
  | refine w_seq ?_ | refine w_asg ?_ | refine w_c ?_ | refine w_op ?_ | refine w_cons ?_ | refine w_nil ?_ | refine w_gname ?_ | refine w_nx ?_ | refine w_rt ?_ | refine w_I0 ?_
  | refine w_eqI ?_ | refine w_neI ?_ | refine w_eqS ?_ | refine w_neS ?_ | refine w_neBl ?_ | refine w_eqBl ?_ | refine w_CB ?_ | refine w_call ?_ | refine w_tcallW ?_ | refine w_bl ?_ | refine w_ret ?_ | refine w_retN ?_ | refine w_ifS ?_
  | refine w_test ?_ | refine w_B ?_ | refine w_andV ?_ | refine w_orV ?_ | refine w_notV ?_ | refine w_if ?_ | refine w_and ?_ | refine w_or ?_ | refine w_not ?_ | refine w_chain ?_ | refine w_iteT ?_ | refine w_iteF ?_ | refine w_nott ?_ | refine w_notf ?_
  | refine w_next ?_ | refine w_tup ?_ | refine w_lst ?_ | refine w_gcons ?_ | refine w_gnil ?_ | refine w_gsub ?_ | refine w_drop ?_ | refine w_tpar ?_ | refine w_tpar3 ?_ | refine w_p2 ?_ | refine w_p3 ?_ | refine w_un ?_ | refine w_U ?_
  | refine w_break ?_ | refine w_cont ?_ | refine w_bk ?_ | refine w_ct ?_ | refine w_isB ?_ | refine w_notB ?_ | refine w_BM ?_ | refine w_BM0 ?_ | refine w_sl ?_ | refine w_nopart ?_ | refine w_tpart ?_ | refine w_intC ?_ | refine w_M1 ?_ | refine w_strx ?_
  | refine w_for ?_ | refine w_lc ?_ | refine w_yes ?_ | refine w_iTup ?_ | refine w_iList ?_ | refine w_iStr ?_ | refine w_iRng1 ?_ | refine w_iRng2 ?_ | refine w_iEnumT ?_ | refine w_onS ?_
  | refine w_abs ?_ | refine w_mx3 ?_ | refine w_mn3 ?_ | refine w_iZip ?_ | refine w_sc ?_ | refine w_mx2 ?_ | refine w_mn2 ?_ | refine w_int1 ?_ | refine w_intB ?_ | refine w_inSign ?_ | refine w_notInSign ?_ | refine w_isNN ?_ | refine w_isNI ?_ | refine w_isNR ?_ | refine w_isN ?_ | refine w_notNN ?_ | refine w_notNI ?_ | refine w_notNR ?_ | refine w_notN ?_ | refine w_ltS ?_ | refine w_leS ?_
  | refine w_fmt ?_ | refine w_joined ?_ | refine w_jcons ?_ | refine w_jnil ?_ | refine w_strS ?_ | refine w_orT ?_ | refine w_andT ?_ | refine w_dput ?_ | refine w_ckw ?_ | refine w_fldN ?_ | refine w_sfld ?_ | refine w_mtN ?_ | refine w_mkN ?_ | refine w_din ?_ | refine w_dnotin ?_ | refine w_iKeys ?_ | refine w_dc ?_ | refine w_whc ?_ | refine w_dget ?_ | refine w_tru ?_ | refine w_truB ?_ | refine w_truI ?_ | refine w_stepT2 ?_ | refine w_dget2 ?_ | refine w_ddel ?_ | refine w_daug ?_ | refine w_dpop1 ?_ | refine w_revL ?_ | refine w_ipI ?_
  | (refine' w_var ?h1 ?_; (case h1 => (with_unfolding_all exact rfl)))
  | (refine' w_aug ?h1 ?_; (case h1 => (with_unfolding_all exact rfl)))
  | (refine w_I ?h1 ?_; (try (case h1 => (with_unfolding_all tm_at "side"))))
  | (refine w_allocT ?h1 ?_; (case h1 => (with_unfolding_all exact rfl)); intro p hp) | (refine w_allocL ?h1 ?_; (case h1 => (with_unfolding_all exact rfl)); intro p hp)
  | (refine w_dnewK ?_; intro p hp)
  | (refine w_lenC ?h1 ?h2 ?_; (case h1 => (with_unfolding_all exact rfl)); (case h2 => (with_unfolding_all exact rfl)))
  | (refine w_kwC ?h1 ?h2 ?_; (case h1 => (with_unfolding_all exact rfl)); (case h2 => (with_unfolding_all exact rfl))))
local macro_rules | `(tactic| tm_at "wp") => `(tactic| repeat' (tm_at "wp1"))
local macro_rules | `(tactic| tm_at "wq1") => `(tactic| with_reducible first
  | refine w_asg ?_ | refine w_c ?_ | refine w_op ?_ | refine w_cons ?_ | refine w_nil ?_ | refine w_gname ?_ | refine w_nx ?_ | refine w_rt ?_ | refine w_I0 ?_
  | refine w_eqI ?_ | refine w_neI ?_ | refine w_eqS ?_ | refine w_neS ?_ | refine w_neBl ?_ | refine w_eqBl ?_ | refine w_CB ?_ | refine w_call ?_ | refine w_tcallW ?_ | refine w_bl ?_ | refine w_ret ?_ | refine w_retN ?_ | refine w_ifS ?_
  | refine w_test ?_ | refine w_B ?_ | refine w_andV ?_ | refine w_orV ?_ | refine w_notV ?_ | refine w_if ?_ | refine w_and ?_ | refine w_or ?_ | refine w_not ?_ | refine w_chain ?_ | refine w_iteT ?_ | refine w_iteF ?_ | refine w_nott ?_ | refine w_notf ?_
  | refine w_next ?_ | refine w_tup ?_ | refine w_lst ?_ | refine w_gcons ?_ | refine w_gnil ?_ | refine w_gsub ?_ | refine w_drop ?_ | refine w_tpar ?_ | refine w_tpar3 ?_ | refine w_p2 ?_ | refine w_p3 ?_ | refine w_un ?_ | refine w_U ?_
  | refine w_break ?_ | refine w_cont ?_ | refine w_bk ?_ | refine w_ct ?_ | refine w_isB ?_ | refine w_notB ?_ | refine w_BM ?_ | refine w_BM0 ?_ | refine w_sl ?_ | refine w_nopart ?_ | refine w_tpart ?_ | refine w_intC ?_ | refine w_M1 ?_ | refine w_strx ?_
  | refine w_for ?_ | refine w_lc ?_ | refine w_yes ?_ | refine w_iTup ?_ | refine w_iList ?_ | refine w_iStr ?_ | refine w_iRng1 ?_ | refine w_iRng2 ?_ | refine w_iEnumT ?_ | refine w_onS ?_
  | refine w_abs ?_ | refine w_mx3 ?_ | refine w_mn3 ?_ | refine w_iZip ?_ | refine w_sc ?_ | refine w_mx2 ?_ | refine w_mn2 ?_ | refine w_int1 ?_ | refine w_intB ?_ | refine w_inSign ?_ | refine w_notInSign ?_ | refine w_isNN ?_ | refine w_isNI ?_ | refine w_isNR ?_ | refine w_isN ?_ | refine w_notNN ?_ | refine w_notNI ?_ | refine w_notNR ?_ | refine w_notN ?_ | refine w_ltS ?_ | refine w_leS ?_
  | refine w_fmt ?_ | refine w_joined ?_ | refine w_jcons ?_ | refine w_jnil ?_ | refine w_strS ?_ | refine w_orT ?_ | refine w_andT ?_ | refine w_dput ?_ | refine w_ckw ?_ | refine w_fldN ?_ | refine w_sfld ?_ | refine w_mtN ?_ | refine w_mkN ?_ | refine w_din ?_ | refine w_dnotin ?_ | refine w_iKeys ?_ | refine w_dc ?_ | refine w_whc ?_ | refine w_dget ?_ | refine w_tru ?_ | refine w_truB ?_ | refine w_truI ?_ | refine w_stepT2 ?_ | refine w_dget2 ?_ | refine w_ddel ?_ | refine w_daug ?_ | refine w_dpop1 ?_ | refine w_revL ?_ | refine w_ipI ?_
  | (refine' w_var ?h1 ?_; (case h1 => (with_unfolding_all exact rfl)))
  | (refine' w_aug ?h1 ?_; (case h1 => (with_unfolding_all exact rfl)))
  | (refine w_I ?h1 ?_; (try (case h1 => (with_unfolding_all tm_at "side"))))
  | (refine w_allocT ?h1 ?_; (case h1 => (with_unfolding_all exact rfl)); intro p hp) | (refine w_allocL ?h1 ?_; (case h1 => (with_unfolding_all exact rfl)); intro p hp)
  | (refine w_dnewK ?_; intro p hp)
  | (refine w_lenC ?h1 ?h2 ?_; (case h1 => (with_unfolding_all exact rfl)); (case h2 => (with_unfolding_all exact rfl)))
  | (refine w_kwC ?h1 ?h2 ?_; (case h1 => (with_unfolding_all exact rfl)); (case h2 => (with_unfolding_all exact rfl))))
local macro_rules | `(tactic| tm_at "wq") => `(tactic| repeat' (tm_at "wq1"))
local macro_rules | `(tactic| tm_at "wx") => `(tactic| with_reducible repeat' (first | refine w_gname ?_ | refine w_next ?_ | refine w_nx ?_))
local macro_rules | `(tactic| tm_at "held") => `(tactic| first | assumption | (refine held_same (by assumption) ?_; tm_at "held"))
local macro_rules | `(tactic| tm_at "wk") => `(tactic| repeat' (first | (refine w_allocLG ?h1 ?_; (case h1 => (with_unfolding_all exact rfl)); intro p G sg hp) | tm_at "wp1" | (refine w_isP (by assumption) (by assumption) (by tm_at "held") (by decide +kernel) ?_)))
local macro_rules | `(tactic| tm_at "vp1") => `(tactic| with_reducible first
  | refine w_seq ?_ | refine w_asg ?_ | refine w_c ?_ | refine w_op ?_ | refine w_cons ?_ | refine w_nil ?_ | refine w_gnameN (by first | (with_reducible_and_instances simp only [List.set_cons_zero, List.set_cons_succ]; apply Eq.refl) | apply Eq.refl) ?_ | refine w_gname ?_ | refine w_setN (by first | (with_reducible_and_instances simp only [List.set_cons_zero, List.set_cons_succ]; apply Eq.refl) | apply Eq.refl) ?_ | refine w_I0 ?_
  | refine w_eqI ?_ | refine w_neI ?_ | refine w_eqS ?_ | refine w_neS ?_ | refine w_neBl ?_ | refine w_eqBl ?_ | refine w_CB ?_ | refine w_call ?_ | refine w_tcallW ?_ | refine w_bl ?_ | refine w_ret ?_ | refine w_retN ?_ | refine w_ifS ?_
  | refine w_test ?_ | refine w_B ?_ | refine w_andV ?_ | refine w_orV ?_ | refine w_notV ?_ | refine w_if ?_ | refine w_and ?_ | refine w_or ?_ | refine w_not ?_ | refine w_chain ?_ | refine w_iteT ?_ | refine w_iteF ?_ | refine w_nott ?_ | refine w_notf ?_
  | refine w_next ?_ | refine w_tup ?_ | refine w_lst ?_ | refine w_gcons ?_ | refine w_gnil ?_ | refine w_gsub ?_ | refine w_drop ?_ | refine w_tparN ?_ | refine w_tpar3N ?_ | refine w_tpar ?_ | refine w_tpar3 ?_ | refine w_p2 ?_ | refine w_p3 ?_ | refine w_un ?_ | refine w_U ?_
  | refine w_break ?_ | refine w_cont ?_ | refine w_isB ?_ | refine w_notB ?_ | refine w_BM ?_ | refine w_BM0 ?_ | refine w_sl ?_ | refine w_nopart ?_ | refine w_tpart ?_ | refine w_intC ?_ | refine w_M1 ?_ | refine w_strx ?_
  | refine w_for ?_ | refine w_lc ?_ | refine w_yes ?_ | refine w_iTup ?_ | refine w_iList ?_ | refine w_iStr ?_ | refine w_iRng1 ?_ | refine w_iRng2 ?_ | refine w_iEnumT ?_ | refine w_onS ?_
  | refine w_abs ?_ | refine w_mx3 ?_ | refine w_mn3 ?_ | refine w_iZip ?_ | refine w_sc ?_ | refine w_mx2 ?_ | refine w_mn2 ?_ | refine w_int1 ?_ | refine w_intB ?_ | refine w_inSign ?_ | refine w_notInSign ?_ | refine w_isNN ?_ | refine w_isNI ?_ | refine w_isNR ?_ | refine w_isN ?_ | refine w_notNN ?_ | refine w_notNI ?_ | refine w_notNR ?_ | refine w_notN ?_ | refine w_ltS ?_ | refine w_leS ?_
  | refine w_fmt ?_ | refine w_joined ?_ | refine w_jcons ?_ | refine w_jnil ?_ | refine w_strS ?_ | refine w_orT ?_ | refine w_andT ?_ | refine w_dput ?_ | refine w_ckw ?_ | refine w_fldN ?_ | refine w_sfld ?_ | refine w_mtN ?_ | refine w_mkN ?_ | refine w_din ?_ | refine w_dnotin ?_ | refine w_iKeys ?_ | refine w_dc ?_ | refine w_whc ?_ | refine w_dget ?_ | refine w_tru ?_ | refine w_truB ?_ | refine w_truI ?_ | refine w_stepT2 ?_ | refine w_dget2 ?_ | refine w_ddel ?_ | refine w_daug ?_ | refine w_dpop1 ?_ | refine w_revL ?_ | refine w_ipI ?_
  | (refine' w_var ?h1 ?_; (case h1 => (with_unfolding_all exact rfl)))
  | (refine' w_augN ?h1 ?_; (case h1 => (with_unfolding_all exact rfl))) | (refine' w_aug ?h1 ?_; (case h1 => (with_unfolding_all exact rfl)))
  | (refine w_I ?h1 ?_; (try (case h1 => (with_unfolding_all tm_at "side"))))
  | (refine w_allocT ?h1 ?_; (case h1 => (with_unfolding_all exact rfl)); intro p hp) | (refine w_allocL ?h1 ?_; (case h1 => (with_unfolding_all exact rfl)); intro p hp)
  | (refine w_dnewK ?_; intro p hp)
  | (refine w_lenC ?h1 ?h2 ?_; (case h1 => (with_unfolding_all exact rfl)); (case h2 => (with_unfolding_all exact rfl)))
  | (refine w_kwC ?h1 ?h2 ?_; (case h1 => (with_unfolding_all exact rfl)); (case h2 => (with_unfolding_all exact rfl))))
local macro_rules | `(tactic| tm_at "vp") => `(tactic| repeat' (tm_at "vp1"))
local macro_rules | `(tactic| tm_at "vq1") => `(tactic| with_reducible first
  | refine w_asg ?_ | refine w_c ?_ | refine w_op ?_ | refine w_cons ?_ | refine w_nil ?_ | refine w_gnameN (by first | (with_reducible_and_instances simp only [List.set_cons_zero, List.set_cons_succ]; apply Eq.refl) | apply Eq.refl) ?_ | refine w_gname ?_ | refine w_setN (by first | (with_reducible_and_instances simp only [List.set_cons_zero, List.set_cons_succ]; apply Eq.refl) | apply Eq.refl) ?_ | refine w_I0 ?_
  | refine w_eqI ?_ | refine w_neI ?_ | refine w_eqS ?_ | refine w_neS ?_ | refine w_neBl ?_ | refine w_eqBl ?_ | refine w_CB ?_ | refine w_call ?_ | refine w_tcallW ?_ | refine w_bl ?_ | refine w_ret ?_ | refine w_retN ?_ | refine w_ifS ?_
  | refine w_test ?_ | refine w_B ?_ | refine w_andV ?_ | refine w_orV ?_ | refine w_notV ?_ | refine w_if ?_ | refine w_and ?_ | refine w_or ?_ | refine w_not ?_ | refine w_chain ?_ | refine w_iteT ?_ | refine w_iteF ?_ | refine w_nott ?_ | refine w_notf ?_
  | refine w_next ?_ | refine w_tup ?_ | refine w_lst ?_ | refine w_gcons ?_ | refine w_gnil ?_ | refine w_gsub ?_ | refine w_drop ?_ | refine w_tparN ?_ | refine w_tpar3N ?_ | refine w_tpar ?_ | refine w_tpar3 ?_ | refine w_p2 ?_ | refine w_p3 ?_ | refine w_un ?_ | refine w_U ?_
  | refine w_break ?_ | refine w_cont ?_ | refine w_isB ?_ | refine w_notB ?_ | refine w_BM ?_ | refine w_BM0 ?_ | refine w_sl ?_ | refine w_nopart ?_ | refine w_tpart ?_ | refine w_intC ?_ | refine w_M1 ?_ | refine w_strx ?_
  | refine w_for ?_ | refine w_lc ?_ | refine w_yes ?_ | refine w_iTup ?_ | refine w_iList ?_ | refine w_iStr ?_ | refine w_iRng1 ?_ | refine w_iRng2 ?_ | refine w_iEnumT ?_ | refine w_onS ?_
  | refine w_abs ?_ | refine w_mx3 ?_ | refine w_mn3 ?_ | refine w_iZip ?_ | refine w_sc ?_ | refine w_mx2 ?_ | refine w_mn2 ?_ | refine w_int1 ?_ | refine w_intB ?_ | refine w_inSign ?_ | refine w_notInSign ?_ | refine w_isNN ?_ | refine w_isNI ?_ | refine w_isNR ?_ | refine w_isN ?_ | refine w_notNN ?_ | refine w_notNI ?_ | refine w_notNR ?_ | refine w_notN ?_ | refine w_ltS ?_ | refine w_leS ?_
  | refine w_fmt ?_ | refine w_joined ?_ | refine w_jcons ?_ | refine w_jnil ?_ | refine w_strS ?_ | refine w_orT ?_ | refine w_andT ?_ | refine w_dput ?_ | refine w_ckw ?_ | refine w_fldN ?_ | refine w_sfld ?_ | refine w_mtN ?_ | refine w_mkN ?_ | refine w_din ?_ | refine w_dnotin ?_ | refine w_iKeys ?_ | refine w_dc ?_ | refine w_whc ?_ | refine w_dget ?_ | refine w_tru ?_ | refine w_truB ?_ | refine w_truI ?_ | refine w_stepT2 ?_ | refine w_dget2 ?_ | refine w_ddel ?_ | refine w_daug ?_ | refine w_dpop1 ?_ | refine w_revL ?_ | refine w_ipI ?_
  | (refine' w_var ?h1 ?_; (case h1 => (with_unfolding_all exact rfl)))
  | (refine' w_augN ?h1 ?_; (case h1 => (with_unfolding_all exact rfl))) | (refine' w_aug ?h1 ?_; (case h1 => (with_unfolding_all exact rfl)))
  | (refine w_I ?h1 ?_; (try (case h1 => (with_unfolding_all tm_at "side"))))
  | (refine w_allocT ?h1 ?_; (case h1 => (with_unfolding_all exact rfl)); intro p hp) | (refine w_allocL ?h1 ?_; (case h1 => (with_unfolding_all exact rfl)); intro p hp)
  | (refine w_dnewK ?_; intro p hp)
  | (refine w_lenC ?h1 ?h2 ?_; (case h1 => (with_unfolding_all exact rfl)); (case h2 => (with_unfolding_all exact rfl)))
  | (refine w_kwC ?h1 ?h2 ?_; (case h1 => (with_unfolding_all exact rfl)); (case h2 => (with_unfolding_all exact rfl))))
local macro_rules | `(tactic| tm_at "vq") => `(tactic| repeat' (tm_at "vq1"))
local macro_rules | `(tactic| tm_at "vx") => `(tactic| with_reducible repeat' (first | refine w_gnameN (by first | (with_reducible_and_instances simp only [List.set_cons_zero, List.set_cons_succ]; apply Eq.refl) | apply Eq.refl) ?_ | refine w_gname ?_ | refine w_setN (by first | (with_reducible_and_instances simp only [List.set_cons_zero, List.set_cons_succ]; apply Eq.refl) | apply Eq.refl) ?_ | refine w_next ?_))
local macro_rules | `(tactic| tm_at "gd") => `(tactic| repeat (first | exact gd_int | exact gd_neg | exact gd_str | exact gd_bl | exact gd_non | exact gd_dct | exact gd_pow (by unfold CPow; decide) | exact gd_var (by with_unfolding_all exact rfl) (.str _) | exact ga_nil | refine ga_cons ?_ ?_ | refine gd_tup ?_ rfl | refine gl_lst ?_ rfl | refine gl_d ?_))
abbrev N_is_whole : List Str := ["thing"]
theorem sc_is_whole : FnScope N_is_whole ["thing"] (defScope s_is_whole) := ⟨rfl, rfl, rfl, by decide +kernel, rfl, by decide +kernel, by decide +kernel⟩
theorem pb_is_whole : PosB "is_whole" s_is_whole ["thing"] := fun _ _ _ _ _ _ us hl => match us, hl with | [_], _ => rfl
abbrev N_is_from : List Str := ["thing", "least"]
theorem sc_is_from : FnScope N_is_from ["thing", "least"] (defScope s_is_from) := ⟨rfl, rfl, rfl, by decide +kernel, rfl, by decide +kernel, by decide +kernel⟩
theorem pb_is_from : PosB "is_from" s_is_from ["thing", "least"] := fun _ _ _ _ _ _ us hl => match us, hl with | [_, _], _ => rfl
abbrev N_is_between : List Str := ["thing", "least", "most"]
theorem sc_is_between : FnScope N_is_between ["thing", "least", "most"] (defScope s_is_between) := ⟨rfl, rfl, rfl, by decide +kernel, rfl, by decide +kernel, by decide +kernel⟩
theorem pb_is_between : PosB "is_between" s_is_between ["thing", "least", "most"] := fun _ _ _ _ _ _ us hl => match us, hl with | [_, _, _], _ => rfl
abbrev N_is_capacity : List Str := ["thing"]
theorem sc_is_capacity : FnScope N_is_capacity ["thing"] (defScope s_is_capacity) := ⟨rfl, rfl, rfl, by decide +kernel, rfl, by decide +kernel, by decide +kernel⟩
theorem pb_is_capacity : PosB "is_capacity" s_is_capacity ["thing"] := fun _ _ _ _ _ _ us hl => match us, hl with | [_], _ => rfl
abbrev N_is_name : List Str := ["thing", "letter"]
theorem sc_is_name : FnScope N_is_name ["thing"] (defScope s_is_name) := ⟨rfl, rfl, rfl, by decide +kernel, rfl, by decide +kernel, by decide +kernel⟩
theorem pb_is_name : PosB "is_name" s_is_name ["thing"] := fun _ _ _ _ _ _ us hl => match us, hl with | [_], _ => rfl
abbrev N_is_run : List Str := ["thing"]
theorem sc_is_run : FnScope N_is_run ["thing"] (defScope s_is_run) := ⟨rfl, rfl, rfl, by decide +kernel, rfl, by decide +kernel, by decide +kernel⟩
theorem pb_is_run : PosB "is_run" s_is_run ["thing"] := fun _ _ _ _ _ _ us hl => match us, hl with | [_], _ => rfl
abbrev N_first_invalid : List Str := ["thing", "most", "index", "pair"]
theorem sc_first_invalid : FnScope N_first_invalid ["thing", "most"] (defScope s_first_invalid) := ⟨rfl, rfl, rfl, by decide +kernel, rfl, by decide +kernel, by decide +kernel⟩
theorem pb_first_invalid : PosB "first_invalid" s_first_invalid ["thing", "most"] := fun _ _ _ _ _ _ us hl => match us, hl with | [_, _], _ => rfl
abbrev N_is_counts : List Str := ["thing"]
theorem sc_is_counts : FnScope N_is_counts ["thing"] (defScope s_is_counts) := ⟨rfl, rfl, rfl, by decide +kernel, rfl, by decide +kernel, by decide +kernel⟩
theorem pb_is_counts : PosB "is_counts" s_is_counts ["thing"] := fun _ _ _ _ _ _ us hl => match us, hl with | [_], _ => rfl
abbrev N_check_capacity : List Str := ["thing"]
theorem sc_check_capacity : FnScope N_check_capacity ["thing"] (defScope s_check_capacity) := ⟨rfl, rfl, rfl, by decide +kernel, rfl, by decide +kernel, by decide +kernel⟩
theorem pb_check_capacity : PosB "check_capacity" s_check_capacity ["thing"] := fun _ _ _ _ _ _ us hl => match us, hl with | [_], _ => rfl
abbrev N_read_number : List Str := ["word", "digit"]
theorem sc_read_number : FnScope N_read_number ["word"] (defScope s_read_number) := ⟨rfl, rfl, rfl, by decide +kernel, rfl, by decide +kernel, by decide +kernel⟩
theorem pb_read_number : PosB "read_number" s_read_number ["word"] := fun _ _ _ _ _ _ us hl => match us, hl with | [_], _ => rfl
abbrev N_counts_text : List Str := ["counts", "name", "count"]
theorem sc_counts_text : FnScope N_counts_text ["counts"] (defScope s_counts_text) := ⟨rfl, rfl, rfl, by decide +kernel, rfl, by decide +kernel, by decide +kernel⟩
theorem pb_counts_text : PosB "counts_text" s_counts_text ["counts"] := fun _ _ _ _ _ _ us hl => match us, hl with | [_], _ => rfl
abbrev N_Summary___init__ : List Str := ["self", "capacity", "counts", "invalid"]
theorem sc_Summary___init__ : FnScope N_Summary___init__ ["self", "capacity", "counts"] (defScope s_Summary___init__) := ⟨rfl, rfl, rfl, by decide +kernel, rfl, by decide +kernel, by decide +kernel⟩
abbrev N_Summary___repr__ : List Str := ["self"]
theorem sc_Summary___repr__ : FnScope N_Summary___repr__ ["self"] (defScope s_Summary___repr__) := ⟨rfl, rfl, rfl, by decide +kernel, rfl, by decide +kernel, by decide +kernel⟩
abbrev N_scan_counts : List Str := ["text", "found", "word", "name", "colon", "digits", "count"]
theorem sc_scan_counts : FnScope N_scan_counts ["text"] (defScope s_scan_counts) := ⟨rfl, rfl, rfl, by decide +kernel, rfl, by decide +kernel, by decide +kernel⟩
theorem pb_scan_counts : PosB "scan_counts" s_scan_counts ["text"] := fun _ _ _ _ _ _ us hl => match us, hl with | [_], _ => rfl
abbrev N_summary_or_none : List Str := ["capacity", "counts"]
theorem sc_summary_or_none : FnScope N_summary_or_none ["capacity", "counts"] (defScope s_summary_or_none) := ⟨rfl, rfl, rfl, by decide +kernel, rfl, by decide +kernel, by decide +kernel⟩
theorem pb_summary_or_none : PosB "summary_or_none" s_summary_or_none ["capacity", "counts"] := fun _ _ _ _ _ _ us hl => match us, hl with | [_, _], _ => rfl
abbrev N_parse_summary : List Str := ["capacity", "text", "summary"]
theorem sc_parse_summary : FnScope N_parse_summary ["capacity", "text"] (defScope s_parse_summary) := ⟨rfl, rfl, rfl, by decide +kernel, rfl, by decide +kernel, by decide +kernel⟩
theorem pb_parse_summary : PosB "parse_summary" s_parse_summary ["capacity", "text"] := fun _ _ _ _ _ _ us hl => match us, hl with | [_, _], _ => rfl
abbrev N_parse_counts : List Str := ["text", "counts"]
theorem sc_parse_counts : FnScope N_parse_counts ["text"] (defScope s_parse_counts) := ⟨rfl, rfl, rfl, by decide +kernel, rfl, by decide +kernel, by decide +kernel⟩
theorem pb_parse_counts : PosB "parse_counts" s_parse_counts ["text"] := fun _ _ _ _ _ _ us hl => match us, hl with | [_], _ => rfl
abbrev N__law_cell : List Str := ["_law_script", "_law_k", "_law_state", "_law_cell_here"]
theorem sc__law_cell : FnScope N__law_cell ["_law_script", "_law_k"] (defScope s__law_cell) := ⟨rfl, rfl, rfl, by decide +kernel, rfl, by decide +kernel, by decide +kernel⟩
theorem pb__law_cell : PosB "_law_cell" s__law_cell ["_law_script", "_law_k"] := fun _ _ _ _ _ _ us hl => match us, hl with | [_, _], _ => rfl
abbrev N__law_pool : List Str := ["_law_cell_here", "_law_digits"]
theorem sc__law_pool : FnScope N__law_pool ["_law_cell_here"] (defScope s__law_pool) := ⟨rfl, rfl, rfl, by decide +kernel, rfl, by decide +kernel, by decide +kernel⟩
theorem pb__law_pool : PosB "_law_pool" s__law_pool ["_law_cell_here"] := fun _ _ _ _ _ _ us hl => match us, hl with | [_], _ => rfl
abbrev N__law_draw : List Str := ["_law_pool_here", "_law_many", "_law_state", "_law_digit"]
theorem sc__law_draw : FnScope N__law_draw ["_law_pool_here", "_law_many"] (defScope s__law_draw) := ⟨rfl, rfl, rfl, by decide +kernel, rfl, by decide +kernel, by decide +kernel⟩
theorem pb__law_draw : PosB "_law_draw" s__law_draw ["_law_pool_here", "_law_many"] := fun _ _ _ _ _ _ us hl => match us, hl with | [_, _], _ => rfl
abbrev N__law_words : List Str := ["_law_pool_here", "_law_many", "_law_letters", "_law_menu", "_law_way", "_law_begin", "_law_k", "_law_stem", "_law_at"]
theorem sc__law_words : FnScope N__law_words ["_law_pool_here", "_law_many"] (defScope s__law_words) := ⟨rfl, rfl, rfl, by decide +kernel, rfl, by decide +kernel, by decide +kernel⟩
theorem pb__law_words : PosB "_law_words" s__law_words ["_law_pool_here", "_law_many"] := fun _ _ _ _ _ _ us hl => match us, hl with | [_, _], _ => rfl
abbrev N__law_often : List Str := ["_law_pool_here", "_law_way"]
theorem sc__law_often : FnScope N__law_often ["_law_pool_here"] (defScope s__law_often) := ⟨rfl, rfl, rfl, by decide +kernel, rfl, by decide +kernel, by decide +kernel⟩
theorem pb__law_often : PosB "_law_often" s__law_often ["_law_pool_here"] := fun _ _ _ _ _ _ us hl => match us, hl with | [_], _ => rfl
abbrev N__law_bag : List Str := ["_law_pool_here", "_law_words_here", "_law_most", "_law_found", "_law_word"]
theorem sc__law_bag : FnScope N__law_bag ["_law_pool_here", "_law_words_here", "_law_most"] (defScope s__law_bag) := ⟨rfl, rfl, rfl, by decide +kernel, rfl, by decide +kernel, by decide +kernel⟩
theorem pb__law_bag : PosB "_law_bag" s__law_bag ["_law_pool_here", "_law_words_here", "_law_most"] := fun _ _ _ _ _ _ us hl => match us, hl with | [_, _, _], _ => rfl
abbrev N__law_kind : List Str := ["_law_e", "_law_kinds", "_law_bases", "_law_own", "_law_at", "_law_words_here"]
theorem sc__law_kind : FnScope N__law_kind ["_law_e"] (defScope s__law_kind) := ⟨rfl, rfl, rfl, by decide +kernel, rfl, by decide +kernel, by decide +kernel⟩
theorem pb__law_kind : PosB "_law_kind" s__law_kind ["_law_e"] := fun _ _ _ _ _ _ us hl => match us, hl with | [_], _ => rfl
abbrev N__law_fields : List Str := ["_law_e"]
theorem sc__law_fields : FnScope N__law_fields ["_law_e"] (defScope s__law_fields) := ⟨rfl, rfl, rfl, by decide +kernel, rfl, by decide +kernel, by decide +kernel⟩
theorem pb__law_fields : PosB "_law_fields" s__law_fields ["_law_e"] := fun _ _ _ _ _ _ us hl => match us, hl with | [_], _ => rfl
abbrev N__law_other_fields : List Str := ["_law_e"]
theorem sc__law_other_fields : FnScope N__law_other_fields ["_law_e"] (defScope s__law_other_fields) := ⟨rfl, rfl, rfl, by decide +kernel, rfl, by decide +kernel, by decide +kernel⟩
theorem pb__law_other_fields : PosB "_law_other_fields" s__law_other_fields ["_law_e"] := fun _ _ _ _ _ _ us hl => match us, hl with | [_], _ => rfl
abbrev N__law_shown : List Str := ["_law_bag_here", "_law_word", "_law_many"]
theorem sc__law_shown : FnScope N__law_shown ["_law_bag_here"] (defScope s__law_shown) := ⟨rfl, rfl, rfl, by decide +kernel, rfl, by decide +kernel, by decide +kernel⟩
theorem pb__law_shown : PosB "_law_shown" s__law_shown ["_law_bag_here"] := fun _ _ _ _ _ _ us hl => match us, hl with | [_], _ => rfl
abbrev N__law_pair : List Str := ["_law_word", "_law_sides", "_law_letter", "_law_digit"]
theorem sc__law_pair : FnScope N__law_pair ["_law_word"] (defScope s__law_pair) := ⟨rfl, rfl, rfl, by decide +kernel, rfl, by decide +kernel, by decide +kernel⟩
theorem pb__law_pair : PosB "_law_pair" s__law_pair ["_law_word"] := fun _ _ _ _ _ _ us hl => match us, hl with | [_], _ => rfl
abbrev N__law_due : List Str := ["_law_shown_here", "_law_found", "_law_word", "_law_pair_here"]
theorem sc__law_due : FnScope N__law_due ["_law_shown_here"] (defScope s__law_due) := ⟨rfl, rfl, rfl, by decide +kernel, rfl, by decide +kernel, by decide +kernel⟩
theorem pb__law_due : PosB "_law_due" s__law_due ["_law_shown_here"] := fun _ _ _ _ _ _ us hl => match us, hl with | [_], _ => rfl
abbrev N__law_bent : List Str := ["_law_pool_here", "_law_shown_here", "_law_signs", "_law_turn", "_law_at", "_law_way", "_law_last", "_law_sign", "_law_left", "_law_right_here"]
theorem sc__law_bent : FnScope N__law_bent ["_law_pool_here", "_law_shown_here", "_law_signs"] (defScope s__law_bent) := ⟨rfl, rfl, rfl, by decide +kernel, rfl, by decide +kernel, by decide +kernel⟩
theorem pb__law_bent : PosB "_law_bent" s__law_bent ["_law_pool_here", "_law_shown_here", "_law_signs"] := fun _ _ _ _ _ _ us hl => match us, hl with | [_, _, _], _ => rfl
abbrev N__law_digits_in_row : List Str := ["_law_shown_here", "_law_longest", "_law_many", "_law_sign"]
theorem sc__law_digits_in_row : FnScope N__law_digits_in_row ["_law_shown_here"] (defScope s__law_digits_in_row) := ⟨rfl, rfl, rfl, by decide +kernel, rfl, by decide +kernel, by decide +kernel⟩
theorem pb__law_digits_in_row : PosB "_law_digits_in_row" s__law_digits_in_row ["_law_shown_here"] := fun _ _ _ _ _ _ us hl => match us, hl with | [_], _ => rfl
abbrev N__law_one_right : List Str := ["_law_widths", "_law_shown_here", "_law_due_here", "_law_found", "_law_wanted", "_law_width", "_law_told"]
theorem sc__law_one_right : FnScope N__law_one_right ["_law_widths", "_law_shown_here"] (defScope s__law_one_right) := ⟨rfl, rfl, rfl, by decide +kernel, rfl, by decide +kernel, by decide +kernel⟩
theorem pb__law_one_right : PosB "_law_one_right" s__law_one_right ["_law_widths", "_law_shown_here"] := fun _ _ _ _ _ _ us hl => match us, hl with | [_, _], _ => rfl
abbrev N__law_by_hand : List Str := ["_law_some", "_law_twelve", "_law_letter", "_law_size"]
theorem sc__law_by_hand : FnScope N__law_by_hand [] (defScope s__law_by_hand) := ⟨rfl, rfl, rfl, by decide +kernel, rfl, by decide +kernel, by decide +kernel⟩
theorem pb__law_by_hand : PosB "_law_by_hand" s__law_by_hand [] := fun _ _ _ _ _ _ us hl => match us, hl with | [], _ => rfl
abbrev N__law_others_right : List Str := ["_law_shown_here", "_law_bad", "_law_mate"]
theorem sc__law_others_right : FnScope N__law_others_right ["_law_shown_here"] (defScope s__law_others_right) := ⟨rfl, rfl, rfl, by decide +kernel, rfl, by decide +kernel, by decide +kernel⟩
theorem pb__law_others_right : PosB "_law_others_right" s__law_others_right ["_law_shown_here"] := fun _ _ _ _ _ _ us hl => match us, hl with | [_], _ => rfl
abbrev N__law_right : List Str := ["_law_pool_here", "_law_bag_here", "_law_shown_here", "_law_widths", "_law_turn", "_law_bent_here"]
theorem sc__law_right : FnScope N__law_right ["_law_pool_here"] (defScope s__law_right) := ⟨rfl, rfl, rfl, by decide +kernel, rfl, by decide +kernel, by decide +kernel⟩
theorem pb__law_right : PosB "_law_right" s__law_right ["_law_pool_here"] := fun _ _ _ _ _ _ us hl => match us, hl with | [_], _ => rfl
abbrev N_law : List Str := ["_law_script", "_law_shown_here", "_law_k"]
theorem sc_law : FnScope N_law ["_law_script"] (defScope s_law) := ⟨rfl, rfl, rfl, by decide +kernel, rfl, by decide +kernel, by decide +kernel⟩
theorem pb_law : PosB "law" s_law ["_law_script"] := fun _ _ _ _ _ _ us hl => match us, hl with | [_], _ => rfl
def gkb_parse_counts_0_text : {α : Type} → List α → List α → List α := fun us ws => match us, ws with | [], [w0] => [w0] | _, _ => []
theorem kb_parse_counts_0_text : KwB "parse_counts" s_parse_counts ["text"] 0 ["text"] gkb_parse_counts_0_text := fun _ _ _ _ _ _ us ws hl hk => match us, hl, ws, hk with | [], _, [_], _ => rfl
theorem kb_parse_counts_0_text_r : ∀ {vs zs : List V} {us ws : List Value}, Vals vs us → Vals zs ws → vs.length = 0 → zs.length = 1 → Vals (gkb_parse_counts_0_text vs zs) (gkb_parse_counts_0_text us ws)
  | [], [_], _, _, .nil, .cons q0 (.nil), _, _ => .cons q0 (.nil)
def gkb_parse_summary_0_text_capacity : {α : Type} → List α → List α → List α := fun us ws => match us, ws with | [], [w0, w1] => [w1, w0] | _, _ => []
theorem kb_parse_summary_0_text_capacity : KwB "parse_summary" s_parse_summary ["capacity", "text"] 0 ["text", "capacity"] gkb_parse_summary_0_text_capacity := fun _ _ _ _ _ _ us ws hl hk => match us, hl, ws, hk with | [], _, [_, _], _ => rfl
theorem kb_parse_summary_0_text_capacity_r : ∀ {vs zs : List V} {us ws : List Value}, Vals vs us → Vals zs ws → vs.length = 0 → zs.length = 2 → Vals (gkb_parse_summary_0_text_capacity vs zs) (gkb_parse_summary_0_text_capacity us ws)
  | [], [_, _], _, _, .nil, .cons q0 (.cons q1 (.nil)), _, _ => .cons q1 (.cons q0 (.nil))
theorem bj_Summary___init___3 : BindJ "__init__" "Summary.__init__" s_Summary___init__ ["self", "capacity", "counts"] 1 3 [] [0, 1, 2] := .inr ⟨by decide, fun _ _ _ _ _ _ _ us its ws h1 h2 h3 => match us, h1, its, h2, ws, h3 with | [_, _, _], _, [_], _, [], _ => ⟨_, rfl, rfl⟩⟩
theorem bj_Summary___init___2 : BindJ "__init__" "Summary.__init__" s_Summary___init__ ["self", "capacity", "counts"] 1 2 [] [0, 1, 2] := .inr ⟨by decide, fun _ _ _ _ _ _ _ us its ws h1 h2 h3 => match us, h1, its, h2, ws, h3 with | [_, _], _, [_], _, [], _ => ⟨_, rfl, rfl⟩⟩
theorem bj_Summary___repr___1 : BindJ "__repr__" "Summary.__repr__" s_Summary___repr__ ["self"] 0 1 [] [0] := .inl ⟨rfl, fun _ _ _ _ _ _ us ws h1 h2 => match us, h1, ws, h2 with | [_], _, [], _ => rfl⟩
def sp_is_whole (K : PySem.W.Frag) : Sp := fun vs H Q _ => ∃ (v : V) (d : PyData), vs = [v] ∧ Dx K H v d ∧ Q (.bl (wholeD d)) H
def sp_is_from (K : PySem.W.Frag) : Sp := fun vs H Q _ => ∃ (v : V) (d : PyData) (j : Int), vs = [v, .int j] ∧ Dx K H v d ∧ Q (.bl (fromD d j)) H
def sp_is_between (K : PySem.W.Frag) : Sp := fun vs H Q _ => ∃ (v : V) (d : PyData) (i j : Int), vs = [v, .int i, .int j] ∧ Dx K H v d ∧ Q (.bl (betD d i j)) H
def sp_is_capacity (K : PySem.W.Frag) : Sp := fun vs H Q _ => ∃ (v : V) (d : PyData), vs = [v] ∧ Dx K H v d ∧ Q (.bl (betD d 1 8)) H
def sp_is_name (K : PySem.W.Frag) : Sp := fun vs H Q _ => ∃ (v : V) (d : PyData), vs = [v] ∧ Dx K H v d ∧ szD d = true ∧ ∀ H', Same H H' → Q (.bl (nameD d)) H'
def sp_is_run (K : PySem.W.Frag) : Sp := fun vs H Q _ => ∃ (v : V) (d : PyData), vs = [v] ∧ Dx K H v d ∧ szD d = true ∧ ∀ H', Same H H' → Q (.bl (runD d)) H'
theorem run_inv {K : PySem.W.Frag} {H : Hp} {v : V} {d : PyData} (h : Dx K H v d) (r : runD d = true) : ∃ a x w, v = .ref a ∧ SqT K H a [.str x, w] ∧ nmD d = x := by
  unfold runD at r
  split at r
  · rename_i a b
    cases a with
    | str x =>
      obtain ⟨p, xs, rfl, hs, hx⟩ := dx_tup_inv h
      cases hx with
      | @cons v0 _ _ _ r0 hx =>
      cases hx with
      | @cons v1 _ _ _ r1 hx =>
      cases hx
      cases dx_str_inv r0
      exact ⟨p, x, v1, rfl, hs, rfl⟩
    | _ => cases r
  · cases r
theorem getD_of {ds : List PyData} {i : Nat} {d : PyData} (h : ds[i]? = some d) : ds.getD i .none = d := by simp [List.getD, h]
def sp_first_invalid (K : PySem.W.Frag) : Sp := fun vs H Q _ => ∃ (v : V) (ds : List PyData) (m : Int), vs = [v, .int m] ∧ Dx K H v (.tuple ds) ∧ szDs ds = true ∧ ∀ H', Same H H' → Q (optV (firstBad ds m)) H'
def sp_is_counts (K : PySem.W.Frag) : Sp := fun vs H Q _ => ∃ (v : V) (d : PyData), vs = [v] ∧ Dx K H v d ∧ szD d = true ∧ ∀ H', Same H H' → Q (.bl (verOk (badF 12) d)) H'
def sp_check_capacity (K : PySem.W.Frag) : Sp := fun vs H Q E => ∃ (v : V) (d : PyData), vs = [v] ∧ Dx K H v d ∧ (betD d 1 8 = true → Q .non H) ∧ (betD d 1 8 = false → ∀ dd H', Same H H' → H' dd = some (.xd [("capacity", v)]) → E (.ref (He.ga K "InvalidCapacity")) (some dd) H')
def sp_read_number (K : PySem.W.Frag) : Sp := fun vs H Q _ => ∃ (b : Str), vs = [.str b] ∧ b.length ≤ 90000 ∧ (allDig b = true → b.length ≤ 640) ∧ ∀ H', Same H H' → Q (match numT b with | some n => .int n | none => .non) H'
def sp_counts_text (K : PySem.W.Frag) : Sp := fun vs H Q _ => ∃ (v : V) (ps : Bag), vs = [v] ∧ Dp K H v (bagD ps) ∧ BagS ps ∧ ps.length ≤ 5000 ∧ ∀ H', Same H H' → Q (.str (cText ps)) H'
def sp_Summary___init__ (K : PySem.W.Frag) : Sp := spInitX K
def sp_Summary___repr__ (K : PySem.W.Frag) : Sp := fun vs H Q _ => ∃ (v : V) (c : Int) (ps : Bag), vs = [v] ∧ SumO K H v c ps ∧ SumV c ps ∧ BagS ps ∧ ∀ H', Same H H' → Q (.str (("Summary(" : Str) ++ intS c ++ (", '" : Str) ++ cText ps ++ ("')" : Str))) H'
def sp_scan_counts (K : PySem.W.Frag) : Sp := fun vs H Q _ => ∃ (v : V) (d : PyData), vs = [v] ∧ Ax K H v d ∧ txtD d ∧ ∀ v' H', Same H H' → ScanV K H' v' (scanD d) → Q v' H'
def sp_summary_or_none (K : PySem.W.Frag) : Sp := fun vs H Q _ => ∃ (c : Int) (v : V) (d : PyData), vs = [.int c, v] ∧ 1 ≤ c ∧ c ≤ 8 ∧ Dx K H v d ∧ szD d = true ∧ (verOk (badF c) d = true → ∀ a dx H', Same H H' → H' a = some (.ins (He.ga K "Summary") dx [("capacity", .int c), ("counts", v)]) → Q (.ref a) H') ∧ (verOk (badF c) d = false → ∀ H', Same H H' → Q .non H')
def sp_parse_summary (K : PySem.W.Frag) : Sp := fun vs H Q E => ∃ (v1 v : V) (d1 d : PyData), vs = [v1, v] ∧ Dx K H v1 d1 ∧ Ax K H v d ∧ txtD d ∧ (betD d1 1 8 = false → ∀ dd H', Same H H' → H' dd = some (.xd [("capacity", v1)]) → E (.ref (He.ga K "InvalidCapacity")) (some dd) H') ∧ (∀ c, d1 = .int c → 1 ≤ c → c ≤ 8 → (∀ ps, cntD c d = some ps → ∀ v' H', Same H H' → SumO K H' v' c ps → Q v' H') ∧ (cntD c d = none → ∀ dd H', Same H H' → H' dd = some (.xd [("text", v)]) → E (.ref (He.ga K "InvalidText")) (some dd) H'))
def sp_parse_counts (K : PySem.W.Frag) : Sp := fun vs H Q E => ∃ (v : V) (d : PyData), vs = [v] ∧ Ax K H v d ∧ txtD d ∧ (∀ ps, cntD 12 d = some ps → ∀ v' H', Same H H' → Dp K H' v' (bagD ps) → Q v' H') ∧ (cntD 12 d = none → ∀ dd H', Same H H' → H' dd = some (.xd [("text", v)]) → E (.ref (He.ga K "InvalidText")) (some dd) H')
def sp__law_cell (K : PySem.W.Frag) : Sp := fun vs H Q _ => ∃ (a : Addr) (ns : List Int) (j : Int), vs = [.ref a, .int j] ∧ SqL K H a (ns.map V.int) ∧ ns.length ≤ 100 ∧ 0 ≤ j ∧ j ≤ 1000 ∧ ∀ n H', Same H H' → Q (.int n) H'
def spc__law_pool (K : PySem.W.Frag) : Sp := spPoolC
def sp__law_pool (K : PySem.W.Frag) : Sp := spPool
theorem divp200 {i j : Int} (h0 : 0 < j) (h1 : j < 2 ^ 200) : CDivP i j := by
  refine ⟨h0, PyProof.noPylong_of_log2 ?_⟩
  exact Nat.lt_of_lt_of_le (PySem.Flt.log2_lt_of (by decide : 0 < 200) (by omega)) (by decide)
def spc__law_draw (K : PySem.W.Frag) : Sp := spDrawC
def sp__law_draw (K : PySem.W.Frag) : Sp := spDraw
def sp__law_words (K : PySem.W.Frag) : Sp := fun vs H Q _ => ∃ (p : Addr) (m : Int), vs = [.ref p, .int m] ∧ H p = some (poolO p) ∧ 0 ≤ m ∧ m ≤ 15 ∧ ∀ a ws H', H a = none → Same H H' → H' a = some (.lst (ws.map V.str)) → WordsOk ws m.toNat → Q (.ref a) H'
def sp__law_often (K : PySem.W.Frag) : Sp := fun vs H Q _ => ∃ (p : Addr), vs = [.ref p] ∧ H p = some (poolO p) ∧ ∀ (r : Int) H', 1 ≤ r → r ≤ 10 ^ 30 → Same H H' → Q (.int r) H'
def sp__law_bag (K : PySem.W.Frag) : Sp := fun vs H Q _ => ∃ (p a : Addr) (ws : List Str) (m : Int) (n : Nat), vs = [.ref p, .ref a, .int m] ∧ H p = some (poolO p) ∧ SqL K H a (ws.map V.str) ∧ WordsOk ws n ∧ n < 64 ∧ 0 ≤ m ∧ m ≤ 10 ^ 30 ∧ ∀ v ps H', Same H H' → Dp K H' v (bagD ps) → BagOk ps → (∀ q ∈ ps, q.1 ∈ ws) → ps.length ≤ n → (∀ q ∈ ps, q.2 ≤ 10 ^ 30) → (0 < m → ∀ q ∈ ps, q.2 ≤ m) → Q v H'
def sp__law_kind (K : PySem.W.Frag) : Addr × Obj → Sp := spKind K
def sp__law_fields (K : PySem.W.Frag) : Addr × Obj → Sp := spFields K
def sp__law_other_fields (K : PySem.W.Frag) : Addr × Obj → Sp := spFieldsO K
def sp__law_shown (K : PySem.W.Frag) : Sp := fun vs H Q _ => ∃ (v : V) (ps : Bag), vs = [v] ∧ Dp K H v (bagD ps) ∧ BagS ps ∧ ps.length ≤ 5000 ∧ ∀ H', Same H H' → Q (.str (cText ps)) H'
theorem any_not (f : Nat → Bool) : ∀ l : List Nat, (l.map fun c => !f c).any id = !(l.all f)
  | [] => rfl
  | c :: r => by
    rw [List.map_cons, List.any_cons, List.all_cons, any_not f r]
    cases f c <;> rfl
def sp__law_pair (K : PySem.W.Frag) : Sp := fun vs H Q _ => ∃ (w : Str), vs = [.str w] ∧ w.length ≤ 80000 ∧ DR 640 (TL.tl w) ∧ (∀ q, pairP w = some q → ∀ v H', Same H H' → Dp K H' v (pairD q) → Q v H') ∧ (pairP w = none → ∀ H', Same H H' → Q .non H')
theorem at_lastX {α : Type} {xs : List α} {v : α} {n : Nat} (hl : xs.length = n + 1) (h : xs[n]? = some v) : atI xs (-1) = some v := by
  have e : ixN xs.length (-1) = some n := by
    unfold ixN
    rw [if_neg (by decide), hl, if_pos (by omega)]
    congr 1
    omega
  unfold atI
  rw [e]
  exact h
def sp__law_due (K : PySem.W.Frag) : Sp := fun vs H Q _ => ∃ (t : Str), vs = [.str t] ∧ t.length ≤ 80000 ∧ DR 640 (TL.tl t) ∧ (∀ ps, cntT 12 t = some ps → ∀ v H', Same H H' → Dp K H' v (bagD ps) → Q v H') ∧ (cntT 12 t = none → ∀ H', Same H H' → Q .non H')
theorem cut_short (b : Str) (p q : Nat) : (cutS b (some (p : Int)) (some (q : Int))).length ≤ q - p := by
  unfold cutS
  rw [HT.sIx_nat, HT.sIx_nat]
  show (List.toArray _).size ≤ _
  simp
  omega
theorem cut_short0 (b : Str) (q : Nat) : (cutS b none (some (q : Int))).length ≤ q := by
  unfold cutS
  rw [HT.sIx_nat, HT.sIx_none]
  show (List.toArray _).size ≤ _
  simp
  omega
theorem TxtOk.short {a : Str} {n i m : Nat} (h : TxtOk n i a) (hl : a.length ≤ m) : TxtOk m m a := ⟨hl, DR.of_len (by rw [← TL.len_tl]; exact hl), h.asc⟩
theorem bent_sg : (": -0123456789abz\n" : Str).cps.toList.length = 17 ∧ ∀ c ∈ (": -0123456789abz\n" : Str).cps.toList, c < 128 := by decide +kernel
def sp__law_bent (K : PySem.W.Frag) : Sp := fun vs H Q _ => ∃ (p : Addr) (t : Str), vs = [.ref p, .str t, .str ": -0123456789abz\n"] ∧ H p = some (poolO p) ∧ TxtOk 1400 40 t ∧ ∀ t' H', Same H H' → TxtOk 20000 500 t' → Q (.str t') H'
def sp__law_digits_in_row (K : PySem.W.Frag) : Sp := fun vs H Q _ => ∃ (t : Str), vs = [.str t] ∧ t.length ≤ 80000 ∧ ∀ (n : Int) H', (n ≤ 60 → DR 60 (TL.tl t)) → Same H H' → Q (.int n) H'
theorem sum_lst {K : PySem.W.Frag} {H : Hp} {R : Addr} {xs ys : List V} {v : V} {c : Int} {ps : Bag} (hR : H R = some (.lst xs)) (h : SumO K H v c ps) : SumO K (upd H R (.lst ys)) v c ps := by
  obtain ⟨a, dx, b, rfl, h1, h2⟩ := h
  have hne : a ≠ R := fun z => by rw [z, hR] at h1; cases h1
  exact ⟨a, dx, b, rfl, (upd_ne hne).trans h1, dp_flat (SameT.lst hR) h2 (flat_bag ps)⟩
def DueV (K : PySem.W.Frag) (H : Hp) (D : V) (t : Str) : Prop := (cntT 12 t = none ∧ D = .non) ∨ ∃ ps, cntT 12 t = some ps ∧ Dp K H D (bagD ps)
theorem DueV.same {K : PySem.W.Frag} {H H' : Hp} {D : V} {t : Str} (h : DueV K H D t) (s : Same H H') : DueV K H' D t := h.imp id fun ⟨ps, a, b⟩ => ⟨ps, a, dp_same s b⟩
theorem DueV.x {K : PySem.W.Frag} {H H' : Hp} {D : V} {t : Str} (h : DueV K H D t) (s : ExtN H H') : DueV K H' D t := h.imp id fun ⟨ps, a, b⟩ => ⟨ps, a, dp_x s b⟩
theorem DueV.flat {K : PySem.W.Frag} {H H' : Hp} {D : V} {t : Str} (h : DueV K H D t) (s : SameT H H') : DueV K H' D t := h.imp id fun ⟨ps, a, b⟩ => ⟨ps, a, dp_flat s b (flat_bag ps)⟩
theorem due_bag {t : Str} {ps : Bag} (ht : TxtOk 20000 60 t) (h : cntT 12 t = some ps) : BagS ps ∧ BagOk ps ∧ ps.length ≤ 12 ∧ ∀ p ∈ ps, p.2 ≤ 10 ^ 60 := by
  obtain ⟨_, hb, hl⟩ := cntT_inv h
  have hc := cntT_big h ht.dig (by decide)
  have h60 : ∀ p ∈ ps, p.2 ≤ 10 ^ 60 := fun p hp => by
    have h1 := hc p hp
    have h2 := hb.pos p hp
    have h3 : (p.2.toNat : Int) ≤ ((10 ^ 60 : Nat) : Int) := Int.ofNat_le.mpr (Nat.le_of_lt h1)
    rw [Int.toNat_of_nonneg (by omega)] at h3
    exact Int.le_trans h3 (by decide)
  refine ⟨hb.s fun p hp => Int.le_trans (h60 p hp) (by decide), hb, ?_, h60⟩
  rcases hl with h | h
  · omega
  · rw [h]; decide
theorem due_row {t : Str} (ht : TxtOk 20000 60 t) : ∃ (wd : Str) (yd : PyData), flatD yd = true ∧ Shows (.list [.list [.str wd, yd], .list [.str wd, yd]]) ∧ (cntT 12 t = none → wd = "text" ∧ yd = .str t) ∧ (∀ ps, cntT 12 t = some ps → wd = "returned" ∧ yd = bagD ps) := by
  have key : ∀ (wd : Str) (yd : PyData), okD (.str wd) = true → rb (.str wd) ≤ 200 → (PyData.str wd).depth ≤ 1 → okD yd = true → rb yd ≤ 300000 → yd.depth ≤ 2 → Shows (.list [.list [.str wd, yd], .list [.str wd, yd]]) := fun wd yd h1 h2 h3 b1 b2 b3 => by
    have k1 : okD (.list [.str wd, yd]) = true := by
      show (okD (.str wd) && (okD yd && true)) = true
      rw [h1, b1]; rfl
    have k2 : rb (.list [.str wd, yd]) ≤ 400000 := by
      show rb (.str wd) + 2 + (rb yd + 2 + 0) + 2 ≤ 400000
      omega
    have k3 : (PyData.list [.str wd, yd]).depth ≤ 58 := by
      simp only [PyData.depth, PyData.depthAll] at b3 h3 ⊢
      omega
    exact shows_l2 k1 k1 (by omega) k3 k3
  cases h : cntT 12 t with
  | none =>
    obtain ⟨b1, b2, b3⟩ := txt_show3 ht
    exact ⟨"text", .str t, rfl, key _ _ (by decide +kernel) (by decide +kernel) (by decide +kernel) b1 (by omega) b3, fun _ => ⟨rfl, rfl⟩, nofun⟩
  | some ps =>
    obtain ⟨hs, _, hl, _⟩ := due_bag ht h
    obtain ⟨b1, b2, b3⟩ := bag_show3 hs
    exact ⟨"returned", bagD ps, flat_bag ps, key _ _ (by decide +kernel) (by decide +kernel) (by decide +kernel) b1 (by omega) b3, nofun, fun qs e => ⟨rfl, by cases e; rfl⟩⟩
def sp__law_one_right (K : PySem.W.Frag) : Sp := fun vs H Q _ => ∃ (a : Addr) (ns : List Int) (t : Str), vs = [.ref a, .str t] ∧ SqL K H a (ns.map V.int) ∧ (∀ n ∈ ns, 1 ≤ n ∧ n ≤ 8) ∧ ns.length ≤ 10 ∧ TxtOk 20000 60 t ∧ Tabs (tabs K) H ∧ ∀ H', ExtN H H' → Tabs (tabs K) H' → Q (.bl true) H'
def hn1 : List Str := "" :: " " :: "-" :: "--" :: "- " :: " -" :: "-1" :: "- a:1" :: "a:1 -" :: "a" :: "a:" :: ":1" :: ":" :: "a:0" :: []
def hn2 : List Str := "a:00" :: "a:01" :: "a:1 " :: " a:1" :: []
def hn3 : List Str := "a:1  b:1" :: "a:1\n" :: "a:1\nb:1" :: "a:1,b:1" :: "a:1b:1" :: "a:1 b" :: "b:1 a:1" :: []
def hn4 : List Str := "a:1 a:1" :: "a:1 a:2" :: "A:1" :: "a1:1" :: []
def hn5 : List Str := "a:-1" :: "a:+1" :: "a:1.0" :: "a:1:1" :: "a::1" :: "a :1" :: "a: 1" :: "a=1" :: "a*2" :: "a:x" :: []
def hn6 : List Str := "a:1x" :: "aaaaaaaa:1" :: "aaaaaaaaa:1" :: []
def hn7 : List Str := "a:1 aa:1" :: "aa:1 a:1" :: "ab:1 aab:1" :: "none" :: "0" :: "1" :: "1:a" :: "(a:1)" :: []
def hn8 : List Str := [("a:9" : Str) ++ repS 59 "9", ("a:1" : Str) ++ repS 59 "0", "a:_1", "a:1_0"]
def hnA : List Str := ((((((hn1 ++ hn2) ++ hn3) ++ hn4) ++ hn5) ++ hn6) ++ hn7) ++ hn8
def hn12 : List Str := (List.range 16).map fun i => (⟨#[97 + i]⟩ : Str) ++ (":1" : Str)
def hnS : List Nat := [1, 2, 7, 8, 9, 12, 13, 16]
def hnB : List Str := hnS.map fun n => Txt.join " " (hn12.take n)
def tOkN (t : Str) : Bool := decide (t.length ≤ 20000) && (okR 60 0 (TL.tl t) && (TL.tl t).all fun c => decide (c < 128))
theorem tOkN_ok {t : Str} (h : tOkN t = true) : TxtOk 20000 60 t := by
  unfold tOkN at h
  rw [Bool.and_eq_true, Bool.and_eq_true, decide_eq_true_eq] at h
  exact ⟨h.1, okR_dr _ 0 (Nat.zero_le _) h.2.1, fun c hc => of_decide_eq_true (List.all_eq_true.mp h.2.2 c hc)⟩
theorem hn_ok : ∀ t ∈ hnA ++ hnB, tOkN t = true := by decide +kernel
theorem hn_len : ∀ n ∈ hnS, ((hn12.take n).map (·.length)).sum + (hn12.take n).length * Str.length (" " : Str) ≤ 10000 := by decide +kernel
theorem abcp : ("abcdefghijklmnop" : Str).cps.size = 16 ∧ ∀ i, i < 16 → ("abcdefghijklmnop" : Str).cps[i]? = some (97 + i) := by decide +kernel
theorem dxs_strs {K : PySem.W.Frag} {H : Hp} : ∀ {xs : List V} {ts : List Str}, DxAll K H xs (ts.map .str) → xs = ts.map V.str
  | [], [], _ => rfl
  | [], t :: ts, h => by cases h
  | x :: xs, [], h => by cases h
  | x :: xs, t :: ts, h => by
    rw [List.map_cons] at h
    cases h with
    | cons h1 h2 =>
      cases dx_str_inv h1
      rw [dxs_strs h2]; rfl
theorem gd_mulS {K : PySem.W.Frag} {σ : L2.St} {H : Hp} {z : Str} {n : Nat} (h1 : z.length * n ≤ 100000) (h2 : n ≤ 100000) : GivesD K σ H (tOp rMulS (tC (.str z)) (tC (.int (n : Nat)))) (.str (repS n z)) := fun H0 _ Q h => ⟨z, n, rfl, rfl, h1, h2, h _ _ (Same.refl _) (.str _)⟩
theorem gd_addS {K : PySem.W.Frag} {σ : L2.St} {H : Hp} {ta tb : TE} {x y : Str} (h1 : GivesD K σ H ta (.str x)) (h2 : GivesD K σ H tb (.str y)) (hl : x.length + y.length ≤ 100000) : GivesD K σ H (tOp rAddS ta tb) (.str (x ++ y)) := fun H0 s Q k => h1 H0 s _ fun v H1 s1 d1 => h2 H1 (s.trans s1) _ fun w H2 s2 d2 => by
  cases dx_str_inv d1
  cases dx_str_inv d2
  exact ⟨x, y, rfl, rfl, sz_le hl, k _ _ (s1.trans s2) (.str _)⟩
def sp__law_by_hand (K : PySem.W.Frag) : Sp := fun vs H Q _ => vs = [] ∧ ∀ (a : Addr) (ts : List Str) H', H a = none → Same H H' → H' a = some (.lst (ts.map V.str)) → (∀ t ∈ ts, TxtOk 20000 60 t) → ts.length ≤ 200 → Q (.ref a) H'
def sp__law_others_right (K : PySem.W.Frag) : Sp := fun vs H Q _ => ∃ (t : Str), vs = [.str t] ∧ TxtOk 1400 40 t ∧ Tabs (tabs K) H ∧ ∀ H', ExtN H H' → Tabs (tabs K) H' → Q (.bl true) H'
def sp__law_right (K : PySem.W.Frag) : Sp := fun vs H Q _ => ∃ (p : Addr), vs = [.ref p] ∧ H p = some (poolO p) ∧ Tabs (tabs K) H ∧ ∀ H', ExtN H H' → Tabs (tabs K) H' → Q (.bl true) H'
def sp_law (K : PySem.W.Frag) : Sp := fun vs H Q _ => ∃ (a : Addr) (ns : List Int), vs = [.ref a] ∧ SqL K H a (ns.map V.int) ∧ ns.length ≤ 63 ∧ Tabs (tabs K) H ∧ ∀ H', Q (.bl true) H'
theorem ok_is_whole {P : Program} {w : World} {K : PySem.W.Frag} {mg : Str → Option Value} {base : Heap} (fr : Fre mg) (D : Dfd K mg "is_whole" s_is_whole) : Has P w K mg base CX0 1 "is_whole" s_is_whole ["thing"] (sp_is_whole K) := by
  refine D.has sc_is_whole (fun vs H Q E h => ?_) (fun cdv A outer s H vs Q E hr hg h => ?_)
  · obtain ⟨v, d, rfl, _⟩ := h; rfl
  · obtain ⟨v, d, rfl, hd, k⟩ := h
    have nd := sc_is_whole.nd
    refine ⟨_, PSs.nox (pss_one (ps_ret (pe_and (pe_callB (k_isi K) rfl fr.isinstance_ (by decide +kernel) (pa_cons (pv 0) (pa_cons (pe_bltn (v := .ty "int") rfl fr.int_ boot_int rfl) pa_nil))) (pe_one (pe_not (pe_callB (k_isi K) rfl fr.isinstance_ (by decide +kernel) (pa_cons (pv 0) (pa_cons (pe_bltn (v := .ty "bool") rfl fr.bool_ boot_bool rfl) pa_nil)))))))), ?_⟩
    try dsimp only [cxOf]
    tm_at "wp"
    refine w_isiX hd (isi_int d) ?_
    cases d
    all_goals first
      | (refine w_bl (w_iteF ?_); tm_at "wp"; exact k)
      | (refine w_bl (w_iteT ?_); tm_at "wp"; refine w_isiX hd (isi_bool _) ?_; tm_at "wp"; exact k)
theorem ok_is_from {P : Program} {w : World} {K : PySem.W.Frag} {mg : Str → Option Value} {base : Heap} (fr : Fre mg) (D : Dfd K mg "is_from" s_is_from)
    (h_is_whole : Has P w K mg base CX0 1 "is_whole" s_is_whole ["thing"] (sp_is_whole K)) : Has P w K mg base CX0 2 "is_from" s_is_from ["thing", "least"] (sp_is_from K) := by
  refine D.has sc_is_from (fun vs H Q E h => ?_) (fun cdv A outer s H vs Q E hr hg h => ?_)
  · obtain ⟨v, d, j, rfl, _⟩ := h; rfl
  · obtain ⟨v, d, j, rfl, hd, k⟩ := h
    have nd := sc_is_from.nd
    refine ⟨_, PSs.nox (pss_one (ps_ret (pe_and (pe_fn h_is_whole pb_is_whole (hr.mono (by decide)) hg rfl pass0 (pa_cons (pv 0) pa_nil)) (pe_one (pe_cmpR op_ge (pv 0) (pv 1) (nomark _)))))), ?_⟩
    try dsimp only [cxOf]
    tm_at "wp"
    refine ⟨v, d, rfl, hd, ?_⟩
    cases d
    case int i =>
      cases dx_int_inv hd
      refine w_bl (w_iteT ?_)
      tm_at "wp"
      exact k
    all_goals (refine w_bl (w_iteF ?_); tm_at "wp"; exact k)
theorem ok_is_between {P : Program} {w : World} {K : PySem.W.Frag} {mg : Str → Option Value} {base : Heap} (fr : Fre mg) (D : Dfd K mg "is_between" s_is_between)
    (h_is_whole : Has P w K mg base CX0 1 "is_whole" s_is_whole ["thing"] (sp_is_whole K)) : Has P w K mg base CX0 2 "is_between" s_is_between ["thing", "least", "most"] (sp_is_between K) := by
  refine D.has sc_is_between (fun vs H Q E h => ?_) (fun cdv A outer s H vs Q E hr hg h => ?_)
  · obtain ⟨v, d, i, j, rfl, _⟩ := h; rfl
  · obtain ⟨v, d, i, j, rfl, hd, k⟩ := h
    have nd := sc_is_between.nd
    refine ⟨_, PSs.nox (pss_one (ps_ret (pe_and (pe_fn h_is_whole pb_is_whole (hr.mono (by decide)) hg rfl pass0 (pa_cons (pv 0) pa_nil)) (pe_one (pe_chain op_le op_le (pv 1) (pv 0) (pv 2)))))), ?_⟩
    try dsimp only [cxOf]
    tm_at "wp"
    refine ⟨v, d, rfl, hd, ?_⟩
    cases d
    case int n =>
      cases dx_int_inv hd
      refine w_bl (w_iteT ?_)
      tm_at "wp"
      refine w_ited (fun h => ?_) (fun h => ?_)
      · tm_at "wp"
        have e : betD (.int n) i j = decide (n ≤ j) := by show (decide (i ≤ n) && decide (n ≤ j)) = _; rw [decide_eq_true h]; rfl
        rw [e] at k
        exact k
      · have e : betD (.int n) i j = false := by show (decide (i ≤ n) && decide (n ≤ j)) = _; rw [decide_eq_false h]; rfl
        rw [e] at k
        exact k
    all_goals (refine w_bl (w_iteF ?_); tm_at "wp"; exact k)
theorem ok_is_capacity {P : Program} {w : World} {K : PySem.W.Frag} {mg : Str → Option Value} {base : Heap} (fr : Fre mg) (c_MAX_CAPACITY : ∃ t, mg "MAX_CAPACITY" = some (.int 8 t)) (D : Dfd K mg "is_capacity" s_is_capacity)
    (h_is_between : Has P w K mg base CX0 2 "is_between" s_is_between ["thing", "least", "most"] (sp_is_between K)) : Has P w K mg base CX0 3 "is_capacity" s_is_capacity ["thing"] (sp_is_capacity K) := by
  refine D.has sc_is_capacity (fun vs H Q E h => ?_) (fun cdv A outer s H vs Q E hr hg h => ?_)
  · obtain ⟨v, d, rfl, _⟩ := h; rfl
  · obtain ⟨v, d, rfl, hd, k⟩ := h
    obtain ⟨_, g_MAX_CAPACITY⟩ := c_MAX_CAPACITY
    have nd := sc_is_capacity.nd
    refine ⟨_, PSs.nox (pss_one (ps_ret (pe_fn h_is_between pb_is_between (hr.mono (by decide)) hg rfl pass0 (pa_cons (pv 0) (pa_cons pe_int (pa_cons (pe_glob (v := .int 8) rfl g_MAX_CAPACITY ⟨_, rfl⟩) pa_nil)))))), ?_⟩
    try dsimp only [cxOf]
    tm_at "wp"
    exact ⟨v, d, 1, 8, rfl, hd, k⟩
theorem ok_is_name {P : Program} {w : World} {K : PySem.W.Frag} {mg : Str → Option Value} {base : Heap} (fr : Fre mg) (c_LETTERS : ∃ t, mg "LETTERS" = some (.str "abcdefghijklmnopqrstuvwxyz" t)) (D : Dfd K mg "is_name" s_is_name) : Has P w K mg base CX0 1 "is_name" s_is_name ["thing"] (sp_is_name K) := by
  refine D.has sc_is_name (fun vs H Q E h => ?_) (fun cdv A outer s H vs Q E hr hg h => ?_)
  · obtain ⟨v, d, rfl, _⟩ := h; rfl
  · obtain ⟨v, d, rfl, hd, hz, k⟩ := h
    obtain ⟨_, g_LETTERS⟩ := c_LETTERS
    have nd := sc_is_name.nd
    refine ⟨_, PSs.nox (pss_one (ps_ret (pe_and (pe_callB (k_isi K) rfl fr.isinstance_ (by decide +kernel) (pa_cons (pv 0) (pa_cons (pe_bltn (v := .ty "str") rfl fr.str_ boot_str rfl) pa_nil))) (pe_and (pe_chain op_lt op_lt pe_int (pe_callB (k_len K) rfl fr.len_ (by decide +kernel) (pa_cons (pv 0) pa_nil)) pe_int) (pe_one (pe_callB (k_all K rfl) rfl fr.all_ (by decide +kernel) (pa_cons (pe_lc (own := [("letter", 1)]) (g := gName 1) (tt := tYes) rfl nd (pi_str (pv 0)) (blkOk_by (own := [("letter", 1)]) (N := N_is_name) (sc := defScope s_is_name) (by decide +kernel)) (fun _ _ _ _ _ => (pg_name (i := 1) nd rfl (Or.inl rfl))) (fun _ _ _ _ _ => pts_nil) (fun _ _ _ _ _ => (pe_cmpR o_inSign (pv 1) (pe_glob (v := .str "abcdefghijklmnopqrstuvwxyz") rfl g_LETTERS ⟨_, rfl⟩) rfl))) pa_nil))))))), ?_⟩
    try dsimp only [cxOf]
    tm_at "wp"
    refine w_isiX hd (isi_str d) ?_
    cases d
    case str x =>
      cases dx_str_inv hd
      have hx : x.length ≤ 100000 := by simpa [szD] using hz
      have kk : ∀ H' b, Same H H' → b = isName x → Q (.bl b) H' := fun H' b s e => by rw [e]; exact k H' s
      refine w_bl (w_iteT ?_)
      tm_at "wp"
      refine w_lenS (sz_le hx) ?_
      tm_at "wp"
      refine w_ited (fun h1 => ?_) (fun h1 => ?_)
      · tm_at "wp"
        refine w_iteb (fun h2 => ?_) (fun h2 => ?_)
        · tm_at "wp"
          intro D0 hD
          refine lc_map walk_str (n := x.cps.size) (by have : x.length = x.cps.size := rfl; omega) (fun i y => ∃ c, x.cps.toList[i]? = some c ∧ y = .bl (isLet c)) hD (fun _ _ => trivial) ?_ ?_ mono_gname
          · rintro i y H1 H2 hi s ⟨rfl, c, hc, rfl⟩ Qy hq
            refine w_gname ⟨rfl, ?_⟩
            tm_at "wp"
            refine hq _ _ (Same.refl _) ⟨c, by simpa using hc, ?_⟩
            show V.bl (decide (c ∈ letters.cps.toList)) = _
            rw [mem_letters]
          · intro acc H1 s _ hacc hl hf
            have e : acc = (x.cps.toList.map isLet).map V.bl := by
              rw [List.map_map]
              exact acc_map (by simpa using hl) hf
            rw [e] at hacc
            refine w_all (SqL.of hacc) ?_
            refine kk _ _ s ?_
            rw [all_map_id]
            unfold isName
            rw [decide_eq_true (show 0 < x.length by omega), decide_eq_true (show x.length < 9 by have := of_decide_eq_true h2; omega)]
            simp
        · refine kk _ _ (Same.refl _) ?_
          unfold isName
          rw [decide_eq_false (show ¬ x.length < 9 by have := of_decide_eq_false h2; omega)]
          simp
      · refine w_bl (w_iteF ?_)
        refine kk _ _ (Same.refl _) ?_
        unfold isName
        rw [decide_eq_false (show ¬ 0 < x.length by omega)]
        simp
    all_goals (refine w_bl (w_iteF ?_); tm_at "wp"; exact k _ (Same.refl _))
theorem ok_is_run {P : Program} {w : World} {K : PySem.W.Frag} {mg : Str → Option Value} {base : Heap} (fr : Fre mg) (D : Dfd K mg "is_run" s_is_run)
    (h_is_from : Has P w K mg base CX0 2 "is_from" s_is_from ["thing", "least"] (sp_is_from K))
    (h_is_name : Has P w K mg base CX0 1 "is_name" s_is_name ["thing"] (sp_is_name K)) : Has P w K mg base CX0 3 "is_run" s_is_run ["thing"] (sp_is_run K) := by
  refine D.has sc_is_run (fun vs H Q E h => ?_) (fun cdv A outer s H vs Q E hr hg h => ?_)
  · obtain ⟨v, d, rfl, _⟩ := h; rfl
  · obtain ⟨v, d, rfl, hd, hz, k⟩ := h
    have nd := sc_is_run.nd
    refine ⟨_, PSs.nox (pss_one (ps_ret (pe_and (pe_callB (k_isi K) rfl fr.isinstance_ (by decide +kernel) (pa_cons (pv 0) (pa_cons (pe_bltn (v := .ty "tuple") rfl fr.tuple_ boot_tuple rfl) pa_nil))) (pe_and (pe_cmpR op_eq (pe_callB (k_len K) rfl fr.len_ (by decide +kernel) (pa_cons (pv 0) pa_nil)) pe_int (nomark _)) (pe_and (pe_fn h_is_name pb_is_name (hr.mono (by decide)) hg rfl pass0 (pa_cons (pe_ix (k_ixT K) (pv 0) pe_int (fun _ _ => rfl)) pa_nil)) (pe_one (pe_fn h_is_from pb_is_from (hr.mono (by decide)) hg rfl pass0 (pa_cons (pe_ix (k_ixT K) (pv 0) pe_int (fun _ _ => rfl)) (pa_cons pe_int pa_nil))))))))), ?_⟩
    try dsimp only [cxOf]
    tm_at "wp"
    refine w_isiX hd (isi_tup d) ?_
    cases d
    case tuple ds =>
      obtain ⟨a, xs, rfl, hs, hx⟩ := dx_tup_inv hd
      have hl := dxs_len hx
      refine w_bl (w_iteT ?_)
      tm_at "wp"
      refine w_lenT hs ?_
      tm_at "wp"
      refine w_ited (fun h1 => ?_) (fun h1 => ?_)
      · obtain ⟨d0, d1, rfl⟩ : ∃ d0 d1, ds = [d0, d1] := by
          match ds, (by omega : ds.length = 2) with
          | [d0, d1], _ => exact ⟨d0, d1, rfl⟩
        cases hx with
        | @cons v0 _ _ _ r0 hx =>
        cases hx with
        | @cons v1 _ _ _ r1 hx =>
        cases hx
        have z0 : szD d0 = true := szDs_get (ds := [d0, d1]) (i := 0) (by simpa [szD] using hz) rfl
        tm_at "wp"
        refine w_ixT hs (v := v0) rfl ?_
        tm_at "wp"
        refine ⟨v0, d0, rfl, r0, z0, fun H1 s1 => ?_⟩
        refine w_bl (w_iteb (fun h3 => ?_) (fun h3 => ?_))
        · tm_at "wp"
          refine w_ixT (sqt_same s1 hs) (v := v1) rfl ?_
          tm_at "wp"
          refine ⟨v1, d1, 1, rfl, dx_same s1 r1, ?_⟩
          have e : runD (.tuple [d0, d1]) = fromD d1 1 := by show (nameD d0 && fromD d1 1) = _; rw [h3]; rfl
          rw [e] at k
          exact k _ s1
        · have e : runD (.tuple [d0, d1]) = false := by show (nameD d0 && fromD d1 1) = _; rw [h3]; rfl
          rw [e] at k
          exact k _ s1
      · have e : runD (.tuple ds) = false := by
          unfold runD
          split
          · exfalso; rename_i heq; injection heq with heq; subst heq; exact h1 (by rw [hl]; rfl)
          · rfl
        rw [e] at k
        tm_at "wp"
        exact k _ (Same.refl _)
    all_goals (refine w_bl (w_iteF ?_); tm_at "wp"; exact k _ (Same.refl _))
theorem ok_first_invalid {P : Program} {w : World} {K : PySem.W.Frag} {mg : Str → Option Value} {base : Heap} (fr : Fre mg) (D : Dfd K mg "first_invalid" s_first_invalid)
    (h_is_run : Has P w K mg base CX0 3 "is_run" s_is_run ["thing"] (sp_is_run K)) : Has P w K mg base CX0 4 "first_invalid" s_first_invalid ["thing", "most"] (sp_first_invalid K) := by
  refine D.has sc_first_invalid (fun vs H Q E h => ?_) (fun cdv A outer s H vs Q E hr hg h => ?_)
  · obtain ⟨v, ds, m, rfl, _⟩ := h; rfl
  · obtain ⟨v, ds, m, rfl, hd, hz, k⟩ := h
    have nd := sc_first_invalid.nd
    refine ⟨_, PSs.nox (pss_cons (ps_for PassesOwn.never rfl (k_iEnumT K rfl fr.enumerate_ (pa_cons (pv 0) pa_nil)) (k_gtup K rfl (pgs_cons (pg_name (i := 2) nd rfl (Or.inl rfl)) (pgs_cons (pg_name (i := 3) nd rfl (Or.inl rfl)) pgs_nil)))
        (pss_one (ps_if (PW.pt (pw_or (pt_cmpR op_ge (pv 2) (pv 1) (nomark _)) (pw_or (pt_not (pt_val (pe_fn h_is_run pb_is_run (hr.mono (by decide)) hg rfl pass0 (pa_cons (pv 3) pa_nil)))) (pw_or1 (PW.pt (pw_and (pt_cmpR op_gt (pv 2) pe_int (nomark _)) (pw_and1 (pt_cmpR o_leS (pe_ix (k_ixT K) (pv 3) pe_int (fun _ _ => rfl)) (pe_ix (k_ixT K) (pe_ix (k_ixT K) (pv 0) (pe_op op_sub (pv 2) pe_int) (fun _ _ => rfl)) pe_int (fun _ _ => rfl)) (nomark _))))))))) (pss_one (ps_ret (pv 2))) pss_nil)))
      (pss_one (ps_ret pe_non))), ?_⟩
    try dsimp only [cxOf]
    obtain ⟨a, xs, rfl, hs, hx⟩ := dx_tup_inv hd
    have hl := dxs_len hx
    tm_at "wp"
    refine w_onE hs ?_
    refine for_go (walk_enumT (xs := xs)) (fun i σ H' => ∃ u w, σ = [some (.ref a), some (.int m), u, w] ∧ Same H H' ∧ ∀ j, j < i → badAt ds m j = false) ⟨none, none, rfl, Same.refl _, fun j h => by omega⟩ (fun i σ H' _ ⟨_, _, _, s, _⟩ => sqt_same s hs) ?_ ?_
    · rintro i v σ H1 H2 hi ⟨u, w, rfl, s1, hp⟩ ⟨T, y, x, rfl, hT, rfl, ey, ex⟩
      cases (Option.some.inj ey)
      obtain ⟨d, e1, e2⟩ := dxs_get hx ex
      have hgd := getD_of e1
      have s2 : Same H (upd H1 T (.tup [.int (i : Nat), x])) := same_step s1 hT
      refine w_gtup (SqT.of upd_same) rfl ?_
      tm_at "wp"
      have hbad : ∀ c, badAt ds m i = c → c = (decide (m ≤ (i : Int)) || (!runD d || (decide (0 < i) && !decide (ltS (nmD (ds.getD (i - 1) .none)) (nmD d))))) := fun c e => by rw [← e]; unfold badAt; rw [hgd]
      have ret : badAt ds m i = true → ∀ H', Same H H' → Q (.int (i : Nat)) H' := fun hb H' s' => by
        have e := firstBad_some (by omega) hb hp
        rw [e] at k
        exact k H' s'
      have nxt : badAt ds m i = false → ∀ j, j < i + 1 → badAt ds m j = false := fun hb j hj => by
        by_cases e : j = i
        · rw [e]; exact hb
        · exact hp j (by omega)
      refine w_ited (fun h1 => ?_) (fun h1 => ?_)
      · tm_at "wp"
        refine ret ?_ _ s2
        unfold badAt
        rw [decide_eq_true h1]; rfl
      · tm_at "wp"
        refine ⟨x, d, rfl, dx_same s2 e2, szDs_get hz e1, fun H3 s3 => ?_⟩
        have s4 := s2.trans s3
        refine w_bl ?_
        refine w_itenb (fun h2 => ?_) (fun h2 => ?_)
        · tm_at "wp"
          refine ret ?_ _ s4
          unfold badAt
          rw [hgd, h2]; simp
        · tm_at "wp"
          obtain ⟨b, nx, wx, rfl, hb, en⟩ := run_inv e2 h2
          refine w_ited (fun h3 => ?_) (fun h3 => ?_)
          · tm_at "wp"
            refine w_ixT (sqt_same s4 hb) (v := .str nx) rfl ?_
            tm_at "wp"
            have hi0 : i - 1 < ds.length := by omega
            have g0 : badAt ds m (i - 1) = false := hp (i - 1) (by omega)
            obtain ⟨v1, q1, q2⟩ := dxs_get' hx (List.getElem?_eq_getElem hi0)
            have r1 : runD ds[i - 1] = true := by
              unfold badAt at g0
              rw [getD_of (List.getElem?_eq_getElem hi0)] at g0
              cases z : runD ds[i - 1]
              · rw [z] at g0; simp at g0
              · rfl
            obtain ⟨b1, nx1, wx1, rfl, hb1, en1⟩ := run_inv q2 r1
            refine w_ixT (sqt_same s4 hs) (v := .ref b1) ?_ ?_
            · have e : ((i : Nat) : Int) - 1 = ((i - 1 : Nat) : Int) := by omega
              rw [e]; exact atI_nat q1
            tm_at "wp"
            refine w_ixT (sqt_same s4 hb1) (v := .str nx1) rfl ?_
            tm_at "wp"
            have key : badAt ds m i = !decide (ltS nx1 nx) := by
              unfold badAt
              rw [hgd, getD_of (List.getElem?_eq_getElem hi0), h2, en, en1, decide_eq_false h1, decide_eq_true (show 0 < i by omega)]
              simp
            refine w_iten (fun h4 => ?_) (fun h4 => ?_)
            · tm_at "wp"
              refine ret ?_ _ s4
              rw [key, decide_eq_false (show ¬ ltS nx1 nx from h4)]; rfl
            · tm_at "wp"
              refine ⟨_, _, rfl, s4, nxt ?_⟩
              rw [key, decide_eq_true (show ltS nx1 nx from h4)]; rfl
          · tm_at "wp"
            refine ⟨_, _, rfl, s4, nxt ?_⟩
            unfold badAt
            rw [hgd, h2, decide_eq_false h1, decide_eq_false (show ¬ 0 < i by omega)]; rfl
    · rintro σ H1 ⟨u, w, rfl, s1, hp⟩
      tm_at "wp"
      have e := firstBad_none (ds := ds) (m := m) fun j hj => hp j (by omega)
      rw [e] at k
      exact k _ s1
theorem ok_is_counts {P : Program} {w : World} {K : PySem.W.Frag} {mg : Str → Option Value} {base : Heap} (fr : Fre mg) (c_MAX_NAMES : ∃ t, mg "MAX_NAMES" = some (.int 12 t)) (D : Dfd K mg "is_counts" s_is_counts)
    (h_first_invalid : Has P w K mg base CX0 4 "first_invalid" s_first_invalid ["thing", "most"] (sp_first_invalid K)) : Has P w K mg base CX0 5 "is_counts" s_is_counts ["thing"] (sp_is_counts K) := by
  refine D.has sc_is_counts (fun vs H Q E h => ?_) (fun cdv A outer s H vs Q E hr hg h => ?_)
  · obtain ⟨v, d, rfl, _⟩ := h; rfl
  · obtain ⟨v, d, rfl, hd, hz, k⟩ := h
    obtain ⟨_, g_MAX_NAMES⟩ := c_MAX_NAMES
    have nd := sc_is_counts.nd
    refine ⟨_, PSs.nox (pss_one (ps_ret (pe_and (pe_callB (k_isi K) rfl fr.isinstance_ (by decide +kernel) (pa_cons (pv 0) (pa_cons (pe_bltn (v := .ty "tuple") rfl fr.tuple_ boot_tuple rfl) pa_nil))) (pe_one (pe_cmpR o_isN (pe_fn h_first_invalid pb_first_invalid (hr.mono (by decide)) hg rfl pass0 (pa_cons (pv 0) (pa_cons (pe_glob (v := .int 12) rfl g_MAX_NAMES ⟨_, rfl⟩) pa_nil))) pe_non (nomark _)))))), ?_⟩
    try dsimp only [cxOf]
    tm_at "wp"
    refine w_isiX hd (isi_tup d) ?_
    cases d
    case tuple ds =>
      refine w_bl (w_iteT ?_)
      tm_at "wp"
      refine ⟨v, ds, 12, rfl, hd, by simpa [szD] using hz, fun H1 s1 => ?_⟩
      cases e : firstBad ds 12 with
      | none =>
        refine w_isNN ?_
        have q : Q (.bl (firstBad ds 12).isNone) H1 := k _ s1
        rw [e] at q
        exact q
      | some i =>
        refine w_isNI ?_
        have q : Q (.bl (firstBad ds 12).isNone) H1 := k _ s1
        rw [e] at q
        exact q
    all_goals (refine w_bl (w_iteF ?_); tm_at "wp"; exact k _ (Same.refl _))
theorem ok_check_capacity {P : Program} {w : World} {K : PySem.W.Frag} {mg : Str → Option Value} {base : Heap} (fr : Fre mg) (x_InvalidCapacity : HasX P w K mg base "InvalidCapacity" "capacity") (D : Dfd K mg "check_capacity" s_check_capacity)
    (h_is_capacity : Has P w K mg base CX0 3 "is_capacity" s_is_capacity ["thing"] (sp_is_capacity K)) : Has P w K mg base (L2.CX P w) 4 "check_capacity" s_check_capacity ["thing"] (sp_check_capacity K) := by
  refine D.has sc_check_capacity (fun vs H Q E h => ?_) (fun cdv A outer s H vs Q E hr hg h => ?_)
  · obtain ⟨v, d, rfl, _⟩ := h; rfl
  · obtain ⟨v, d, rfl, hd, k, kE⟩ := h
    have nd := sc_check_capacity.nd
    refine ⟨_, (pss_one (ps_if (pt_not (pt_val (pe_fn h_is_capacity pb_is_capacity (hr.mono (by decide)) hg rfl pass0 (pa_cons (pv 0) pa_nil)))) (pss_one (ps_rai K x_InvalidCapacity rfl takesE (hr.mono (by decide)) rfl (pv 0))) pss_nil)), ?_⟩
    try dsimp only [cxOf]
    tm_at "wp"
    refine ⟨v, d, rfl, hd, ?_⟩
    refine w_bl ?_
    cases hb : betD d 1 8 with
    | true =>
      rw [if_neg (by decide)]
      tm_at "wp"
      exact k hb
    | false =>
      rw [if_pos (by rfl)]
      refine w_rai ?_
      tm_at "wp"
      exact w_raic fun dx hdx => kE hb dx _ (same_new hdx) upd_same
theorem ok_read_number {P : Program} {w : World} {K : PySem.W.Frag} {mg : Str → Option Value} {base : Heap} (fr : Fre mg) (D : Dfd K mg "read_number" s_read_number) : Has P w K mg base CX0 1 "read_number" s_read_number ["word"] (sp_read_number K) := by
  refine D.has sc_read_number (fun vs H Q E h => ?_) (fun cdv A outer s H vs Q E hr hg h => ?_)
  · obtain ⟨b, rfl, _⟩ := h; rfl
  · obtain ⟨b, rfl, hl, hd, k⟩ := h
    have nd := sc_read_number.nd
    refine ⟨_, PSs.nox (pss_cons (ps_if (PW.pt (pw_or (pt_cmpR op_eq (pv 0) pe_str (nomark _)) (pw_or (pt_val (pe_callB (k_any K rfl) rfl fr.any_ (by decide +kernel) (pa_cons (pe_lc (own := [("digit", 1)]) (g := gName 1) (tt := tYes) rfl nd (pi_str (pv 0)) (blkOk_by (own := [("digit", 1)]) (N := N_read_number) (sc := defScope s_read_number) (by decide +kernel)) (fun _ _ _ _ _ => (pg_name (i := 1) nd rfl (Or.inl rfl))) (fun _ _ _ _ _ => pts_nil) (fun _ _ _ _ _ => (pe_cmpR o_notInSign (pv 1) pe_str rfl))) pa_nil))) (pw_or1 (PW.pt (pw_and (pt_cmpR op_eq (pe_ix ix_str (pv 0) pe_int (fun _ _ => rfl)) pe_str (nomark _)) (pw_and1 (pt_cmpR op_ne (pv 0) pe_str (nomark _))))))))) (pss_one (ps_ret pe_non)) pss_nil)
      (pss_one (ps_ret (pe_callTy c_intS rfl fr.int_ (by decide +kernel) (pa_cons (pv 0) pa_nil))))), ?_⟩
    try dsimp only [cxOf]
    tm_at "wp"
    have fin0 : okN b = false → ∀ H', Same H H' → Q .non H' := fun h H' s => by have := k H' s; rw [num_no h] at this; exact this
    refine w_ited (fun h => ?_) (fun h0 => ?_)
    · tm_at "wp"
      exact fin0 (by unfold okN; rw [decide_eq_true h]; rfl) _ (Same.refl _)
    tm_at "wp"
    intro D0 hD
    refine lc_map walk_str (n := b.cps.size) (by have : b.length = b.cps.size := rfl; omega) (fun j y => ∃ c, b.cps.toList[j]? = some c ∧ y = .bl (!isDig c)) hD (fun _ _ => trivial) ?_ ?_ mono_gname
    · rintro j y H1 H2 hj s ⟨rfl, c, hc, rfl⟩ Qy hq
      refine w_gname ⟨rfl, ?_⟩
      tm_at "wp"
      refine hq _ _ (Same.refl _) ⟨c, by simpa using hc, ?_⟩
      exact congrArg (fun z => V.bl (!z)) (digs_dec c)
    · intro acc H1 s _ hacc hl2 hf
      have e : acc = (b.cps.toList.map fun c => !isDig c).map V.bl := by
        rw [List.map_map]
        exact acc_map (by simpa using hl2) hf
      rw [e] at hacc
      tm_at "wp"
      refine w_any (SqL.of hacc) ?_
      have ea : (b.cps.toList.map fun c => !isDig c).any id = !allDig b := by
        unfold allDig
        rw [List.any_map, List.not_all_eq_any_not]; rfl
      rw [ea]
      tm_at "wp"
      cases hA : allDig b with
      | false =>
        rw [if_pos (by rfl)]
        tm_at "wp"
        exact fin0 (by unfold okN; rw [hA]; simp) _ s
      | true =>
        rw [if_neg (by decide)]
        have hbl := hd hA
        have hne : TL.tl b ≠ [] := fun z => h0 (str_tl (by rw [z]; decide +kernel))
        obtain ⟨c0, r0, ec⟩ := List.exists_cons_of_ne_nil hne
        have ecb : b.cps.toList = c0 :: r0 := ec
        have hA2 : ∀ h48 : Bool, okN b = (!decide ((TL.tl b).head? = some 48) || decide (b = "0")) := fun _ => by
          unfold okN
          rw [hA, decide_eq_false h0]; rfl
        have fin1 : okN b = true → tRet (tCB rIntS (tCons (tVar 0) tNil)) { nx := fun x H' => Q V.non H', rt := Q } (L2.start N_read_number [V.str b]) H1 := fun ok => by
          obtain ⟨n, q1, q2, _⟩ := num_ok ok hbl
          tm_at "wp"
          refine w_intS q1 hbl ?_
          have := k H1 s
          rw [q2] at this
          exact this
        tm_at "wp"
        refine w_ixS (c := c0) (sz_le (by omega)) (by rw [ecb]; exact atI_nat (j := 0) rfl) ?_
        tm_at "wp"
        refine w_ited (fun h => ?_) (fun h => ?_)
        · have e48 : c0 = 48 := by
            have : [c0] = [48] := congrArg (fun q : Str => q.cps.toList) h
            exact (List.cons.inj this).1
          tm_at "wp"
          by_cases hz : b = "0"
          · rw [decide_eq_true hz, if_neg (by decide)]
            exact fin1 (by rw [hA2 true, decide_eq_true hz, Bool.or_true])
          · rw [decide_eq_false hz, if_pos (show (!false) = true from rfl)]
            tm_at "wp"
            exact fin0 (by rw [hA2 true, ec, decide_eq_false hz, Bool.or_false, decide_eq_true (show (c0 :: r0).head? = some 48 by rw [e48]; rfl)]; rfl) _ s
        · have e48 : c0 ≠ 48 := fun z => h (by rw [z]; decide +kernel)
          exact fin1 (by rw [hA2 true, ec, decide_eq_false (show ¬ (c0 :: r0).head? = some 48 from fun z => e48 (Option.some.inj z))]; rfl)
theorem ok_counts_text {P : Program} {w : World} {K : PySem.W.Frag} {mg : Str → Option Value} {base : Heap} (fr : Fre mg) (D : Dfd K mg "counts_text" s_counts_text) : HasA P w K mg base CX0 1 "counts_text" s_counts_text ["counts"] (sp_counts_text K) := by
  refine D.hasA sc_counts_text (fun vs H Q E h => ?_) (fun cdv A outer s H vs Q E hr h => ?_)
  · obtain ⟨v, ps, rfl, _⟩ := h; rfl
  · obtain ⟨v, ps, rfl, hd, hb, hn, k⟩ := h
    have nd := sc_counts_text.nd
    refine ⟨_, PSs.nox (pss_one (ps_ret (k_orT K (k_join K pe_str (pe_lc (own := [("name", 1), ("count", 2)]) (g := gTup K 2 (gCons (gName 1) (gCons (gName 2) gNil))) (tt := tYes) rfl nd (k_iTup K (pv 0)) (blkOk_by (own := [("name", 1), ("count", 2)]) (N := N_counts_text) (sc := defScope s_counts_text) (by decide +kernel)) (fun _ _ _ _ _ => (k_gtup K rfl (pgs_cons (pg_name (i := 1) nd rfl (Or.inl rfl)) (pgs_cons (pg_name (i := 2) nd rfl (Or.inl rfl)) pgs_nil)))) (fun _ _ _ _ _ => pts_nil) (fun _ _ _ _ _ => (k_joined (.cons (pe_fmt (pv 1)) (.cons pe_str (.cons (pe_fmt (pv 2)) .nil))))))) (pe_one pe_str)))), ?_⟩
    try dsimp only [cxOf]
    obtain ⟨a, xs, rfl, hs, hx, hl⟩ := bag_inv hd
    tm_at "wp"
    refine w_onT hs ?_
    intro D0 hD
    refine lc_map walk_tup (n := xs.length) (by omega) (fun i y => ∃ p, ps[i]? = some p ∧ y = .str (ptS p)) hD (fun _ s => sqt_same s hs) ?_ ?_ mono_gpair
    · rintro i y H1 H2 hi s ⟨rfl, hy⟩ Qy hq
      obtain ⟨p, b, e1, rfl, hb'⟩ := bag_get hx hy
      obtain ⟨h1, h2, h3⟩ := hb p (List.mem_of_getElem? e1)
      have hpl := (ptS_len h1 h2 h3).2
      have hnl := (isName_len h1).2
      refine w_gtup (sqt_same s hb') rfl ?_
      tm_at "wp"
      refine ⟨rfl, ?_⟩
      tm_at "wp"
      refine w_fmtS (by omega) ?_
      refine w_jsc (by rw [empty_app]; omega) ?_
      rw [empty_app]
      tm_at "wp"
      refine w_jsc (by rw [app_len]; have : Str.length (":" : Str) = 1 := (by decide +kernel); omega) ?_
      tm_at "wp"
      refine w_fmtI h2 h3 ?_
      refine w_jsc (by show (ptS p).length ≤ _; omega) ?_
      tm_at "wp"
      exact hq _ _ (Same.refl _) ⟨p, e1, rfl⟩
    · intro acc H1 s _ hacc hl2 hf
      have e : acc = (ps.map ptS).map V.str := by
        rw [List.map_map]
        exact acc_map (by omega) hf
      rw [e] at hacc
      have hj := parts_len hb
      have hjl := join_len hb
      refine w_join (SqL.of hacc) (by omega) ?_
      refine w_orcS (by omega) (fun h1 => ?_) (fun h0 => ?_)
      · have ne : ps ≠ [] := fun z => by subst z; exact absurd h1 (by decide +kernel)
        have ec : cText ps = Txt.join (" " : Str) (ps.map ptS) := by unfold cText; rw [if_neg ne]
        rw [← ec]
        exact k _ s
      · have ee : ps = [] := Classical.byContradiction fun z => by have := join_ne hb z; omega
        tm_at "wp"
        have ec : cText ps = "-" := by unfold cText; rw [if_pos ee]
        have := k _ s
        rw [ec] at this
        exact this
theorem ok_Summary___init__ {P : Program} {w : World} {K : PySem.W.Frag} {mg : Str → Option Value} {base : Heap} (fr : Fre mg) (cl_Summary : ClsF K mg "Summary" ["capacity", "counts", "__bool__"]) (et_Summary___init___0 : ∀ H : Hp, SqT K H (dflA "Summary" "__init__" 0 K) []) (x_InvalidSummary : HasX P w K mg base "InvalidSummary" "index") (D : DfdM K "Summary" "__init__" "Summary.__init__" s_Summary___init__ [.ref (dflA "Summary" "__init__" 0 K)])
    (h_check_capacity : Has P w K mg base (L2.CX P w) 4 "check_capacity" s_check_capacity ["thing"] (sp_check_capacity K))
    (h_first_invalid : Has P w K mg base CX0 4 "first_invalid" s_first_invalid ["thing", "most"] (sp_first_invalid K)) : HasM P w K mg base (L2.CX P w) 5 "Summary" "__init__" "Summary.__init__" s_Summary___init__ [.ref (dflA "Summary" "__init__" 0 K)] ["self", "capacity", "counts"] (sp_Summary___init__ K) := by
  refine D.has sc_Summary___init__ (fun vs H Q E h => ?_) (fun cdv A outer s H vs Q E hr hg h => ?_)
  · obtain ⟨x, dx, v1, v2, d1, d2, rfl, _⟩ := h; rfl
  · obtain ⟨x, dx, v1, v2, d1, d2, rfl, hx, h1, h2, hz, kC, k⟩ := h
    have nd := sc_Summary___init__.nd
    refine ⟨_, (pss_cons (ps_expr (pe_fn h_check_capacity pb_check_capacity (hr.mono (by decide)) hg rfl (passE takesE) (pa_cons (pv 1) pa_nil)))
      (pss_cons (ps_if (pt_not (pt_val (pe_callB (k_isi K) rfl fr.isinstance_ (by decide +kernel) (pa_cons (pv 2) (pa_cons (pe_bltn (v := .ty "tuple") rfl fr.tuple_ boot_tuple rfl) pa_nil))))) (pss_one (ps_rai K x_InvalidSummary rfl takesE (hr.mono (by decide)) rfl pe_non)) pss_nil)
      (pss_cons (ps_set (i := 3) nd rfl (Or.inl rfl) (pe_fn h_first_invalid pb_first_invalid (hr.mono (by decide)) hg rfl pass0 (pa_cons (pv 2) (pa_cons (pv 1) pa_nil))))
      (pss_cons (ps_if (pt_cmpR o_notN (pv 3) pe_non (nomark _)) (pss_one (ps_rai K x_InvalidSummary rfl takesE (hr.mono (by decide)) rfl (pv 3))) pss_nil)
      (pss_cons (k_sfld K (pv 0) (pv 1) rfl)
      (pss_one (k_sfld K (pv 0) (pv 2) rfl))))))), ?_⟩
    try dsimp only [cxOf]
    tm_at "wp"
    refine ⟨v1, d1, rfl, h1, fun hb => ?_, kC⟩
    obtain ⟨c, rfl, c1, c8⟩ : ∃ c, d1 = .int c ∧ 1 ≤ c ∧ c ≤ 8 := by
      cases d1 with
      | int c =>
        have hb : (decide (1 ≤ c) && decide (c ≤ 8)) = true := hb
        rw [Bool.and_eq_true, decide_eq_true_eq, decide_eq_true_eq] at hb
        exact ⟨c, rfl, hb.1, hb.2⟩
      | _ => cases hb
    cases dx_int_inv h1
    obtain ⟨k1, k2⟩ := k c rfl c1 c8
    tm_at "wp"
    refine w_isiX h2 (isi_tup _) ?_
    refine w_bl ?_
    cases d2
    case tuple ds =>
      rw [show (!isTupD (.tuple ds)) = false from rfl, if_neg (by decide)]
      tm_at "wp"
      refine ⟨v2, ds, c, rfl, h2, by simpa [szD] using hz, fun H1 s1 => ?_⟩
      cases e : firstBad ds c with
      | none =>
        tm_at "wp"
        rw [show optV none = V.non from rfl, decide_eq_true rfl, if_neg (by decide)]
        tm_at "wp"
        refine w_setc cl_Summary (by decide) (s1 _ _ hx) (by decide) ?_
        tm_at "wp"
        refine w_setc cl_Summary (by decide) upd_same (show (1 : Nat) < 1000 by decide) ?_
        tm_at "wp"
        refine k1 (by show (firstBad ds c).isNone = true; rw [e]; rfl) _ (fun z o ne e => ?_) upd_same
        rw [upd_ne ne, upd_ne ne]
        exact s1 z o e
      | some i =>
        tm_at "wp"
        rw [decide_eq_false (show optV (some i) ≠ V.non from nofun), if_pos (by rfl)]
        refine w_rai ?_
        tm_at "wp"
        refine w_raic fun dx hdx => k2 (by show (firstBad ds c).isNone = false; rw [e]; rfl) dx _ (same_step s1 hdx) ?_
        rw [upd_same, show verV (badF c) (.tuple ds) = optV (firstBad ds c) from rfl, e]
    all_goals
      rw [if_pos (by rfl)]
      refine w_rai ?_
      tm_at "wp"
      exact w_raic fun dx hdx => k2 rfl dx _ (same_new hdx) upd_same
theorem ok_Summary___repr__ {P : Program} {w : World} {K : PySem.W.Frag} {mg : Str → Option Value} {base : Heap} (fr : Fre mg) (cl_Summary : ClsF K mg "Summary" ["capacity", "counts", "__bool__"]) (et_Summary___init___0 : ∀ H : Hp, SqT K H (dflA "Summary" "__init__" 0 K) []) (D : DfdM K "Summary" "__repr__" "Summary.__repr__" s_Summary___repr__ [])
    (h_counts_text : HasA P w K mg base CX0 1 "counts_text" s_counts_text ["counts"] (sp_counts_text K)) : HasMA P w K mg base CX0 2 "Summary" "__repr__" "Summary.__repr__" s_Summary___repr__ [] ["self"] (sp_Summary___repr__ K) := by
  refine D.hasA sc_Summary___repr__ (fun vs H Q E h => ?_) (fun cdv A outer s H vs Q E hr h => ?_)
  · obtain ⟨v, c, ps, rfl, _⟩ := h; rfl
  · obtain ⟨v, c, ps, rfl, ho, hv, hb, k⟩ := h
    have nd := sc_Summary___repr__.nd
    refine ⟨_, PSs.nox (pss_one (ps_ret (k_joined (.cons pe_str (.cons (pe_fmt (k_fld K (pv 0) rfl)) (.cons pe_str (.cons (pe_fmt (pe_fnA h_counts_text pb_counts_text (hr.mono (by decide)) rfl pass0 (pa_cons (k_fld K (pv 0) rfl) pa_nil))) (.cons pe_str .nil)))))))), ?_⟩
    try dsimp only [cxOf]
    have hlen := hv.len
    have h8 := hv.c8
    have h1 := hv.c1
    have hi := intS_len (i := c) (by omega) (by omega)
    have hc := cText_len hb
    have l1 : Str.length ("Summary(" : Str) = 8 := by decide +kernel
    have l2 : Str.length (", '" : Str) = 3 := by decide +kernel
    have l3 : Str.length ("')" : Str) = 2 := by decide +kernel
    tm_at "wp"
    refine w_jsc (by rw [empty_app]; omega) ?_
    rw [empty_app]
    tm_at "wp"
    refine w_sumCap cl_Summary ho ?_
    refine w_fmtI (by omega) (by omega) ?_
    refine w_jsc (by rw [app_len]; omega) ?_
    tm_at "wp"
    refine w_jsc (by rw [app_len, app_len]; omega) ?_
    tm_at "wp"
    refine w_sumCnt cl_Summary ho fun b hbd => ?_
    tm_at "wp"
    refine ⟨b, ps, rfl, hbd, hb, by omega, fun H1 s1 => ?_⟩
    refine w_fmtS (by omega) ?_
    refine w_jsc (by rw [app_len, app_len, app_len]; omega) ?_
    tm_at "wp"
    refine w_jsc (by rw [app_len, app_len, app_len, app_len]; omega) ?_
    tm_at "wp"
    exact k _ s1
theorem ok_scan_counts {P : Program} {w : World} {K : PySem.W.Frag} {mg : Str → Option Value} {base : Heap} (fr : Fre mg) (cl_Summary : ClsF K mg "Summary" ["capacity", "counts", "__bool__"]) (et_Summary___init___0 : ∀ H : Hp, SqT K H (dflA "Summary" "__init__" 0 K) []) (D : Dfd K mg "scan_counts" s_scan_counts)
    (h_read_number : Has P w K mg base CX0 1 "read_number" s_read_number ["word"] (sp_read_number K)) : Has P w K mg base CX0 2 "scan_counts" s_scan_counts ["text"] (sp_scan_counts K) := by
  refine D.has sc_scan_counts (fun vs H Q E h => ?_) (fun cdv A outer s H vs Q E hr hg h => ?_)
  · obtain ⟨v, d, rfl, _⟩ := h; rfl
  · obtain ⟨v, d, rfl, hd, ht, k⟩ := h
    have nd := sc_scan_counts.nd
    refine ⟨_, PSs.nox (pss_cons (ps_if (pt_not (pt_val (pe_callB (k_isi K) rfl fr.isinstance_ (by decide +kernel) (pa_cons (pv 0) (pa_cons (pe_bltn (v := .ty "str") rfl fr.str_ boot_str rfl) pa_nil))))) (pss_one (ps_ret pe_non)) pss_nil)
      (pss_cons (ps_set (i := 1) nd rfl (Or.inl rfl) (pe_lst pa_nil))
      (pss_cons (ps_for PassesOwn.never rfl (k_iList K (pe_ifExp (pt_cmpR op_eq (pv 0) pe_str (nomark _)) (pe_lst pa_nil) (pe_split (pv 0) pe_str))) (pg_name (i := 2) nd rfl (Or.inl rfl))
        (pss_cons (ps_asg (pe_partition (pv 2) pe_str) (k_gtup K rfl (pgs_cons (pg_name (i := 3) nd rfl (Or.inl rfl)) (pgs_cons (pg_name (i := 4) nd rfl (Or.inl rfl)) (pgs_cons (pg_name (i := 5) nd rfl (Or.inl rfl)) pgs_nil)))))
      (pss_cons (ps_set (i := 6) nd rfl (Or.inl rfl) (pe_ifExp (k_tru K (pv 4) (by intro _; rfl)) (pe_fn h_read_number pb_read_number (hr.mono (by decide)) hg rfl pass0 (pa_cons (pv 5) pa_nil)) pe_non))
      (pss_cons (ps_if (pt_cmpR o_isN (pv 6) pe_non (nomark _)) (pss_one (ps_ret pe_non)) pss_nil)
      (pss_one (ps_expr (k_bm K PySem.F.plainAttrs_list PySem.F.slot_list_append PySem.F.type_list_append mt_append (pv 1) (pa_cons (pe_tup (pa_cons (pv 3) (pa_cons (pv 6) pa_nil))) pa_nil))))))))
      (pss_one (ps_ret (pe_callTy (k_tuple K) rfl fr.tuple_ (by decide +kernel) (pa_cons (pv 1) pa_nil))))))), ?_⟩
    try dsimp only [cxOf]
    tm_at "wp"
    rcases hd with hd | ⟨rfl, c, ps, a, dx, b, rfl, h1, _⟩
    rotate_left
    · refine w_isiB cl_Summary (by decide) h1 ?_
      refine w_bl ?_
      refine w_iteT ?_
      tm_at "wp"
      exact k _ _ (Same.refl _) rfl
    refine w_isiX hd (isi_str d) ?_
    refine w_bl ?_
    cases d
    case str t =>
      cases dx_str_inv hd
      refine w_iteF ?_
      obtain ⟨htl, hdr⟩ := (show t.length ≤ 80000 ∧ DR 640 (TL.tl t) from ht)
      have k : ∀ v' H', Same H H' → ScanV K H' v' (scanT t) → Q v' H' := k
      clear ht hd
      tm_at "wp"
      rename_i l hl
      refine w_ifE (fun v H' => ∃ a, v = .ref a ∧ a ≠ l ∧ Same (upd H l (.lst [])) H' ∧ H' a = some (.lst ((wordsT t).map V.str))) ?_ (fun hd hx => ?_) (fun hd hx => ?_)
      rotate_left
      · have e0 : t = "-" := of_decide_eq_true hd
        refine w_lst (w_nil (w_allocL (by with_unfolding_all exact rfl) ?_))
        intro e1 he1
        exact hx _ _ ⟨e1, rfl, (ne_fresh upd_same he1).symm, same_new he1, by unfold wordsT; rw [if_pos e0]; exact upd_same⟩
      · have e0 : t ≠ "-" := of_decide_eq_false hd
        tm_at "wp"
        refine ⟨_, _, rfl, rfl, by decide +kernel, by rw [sizeLine_eq]; omega, ?_⟩
        intro e1 he1
        exact hx _ _ ⟨e1, rfl, (ne_fresh upd_same he1).symm, same_new he1, by unfold wordsT; rw [if_neg e0]; exact upd_same⟩
      rintro v H1 ⟨a, rfl, hal, s1, ha⟩
      have s01 : Same H H1 := (same_new hl).trans s1
      have hl1 := s1 _ _ (upd_same (H := H) (a := l) (o := .lst []))
      clear s1
      have hwl := words_le t
      tm_at "wp"
      refine w_onL (SqL.of ha) ?_
      refine for_go (walk_list (xs := (wordsT t).map V.str)) (fun i σ H' => ∃ (u2 u3 u4 u5 u6 : Option V) (xs : List V) (rs : Bag), σ = [some (.str t), some (.ref l), u2, u3, u4, u5, u6] ∧ SameB l H1 H' ∧ H' l = some (.lst xs) ∧ DpAll K H' xs (rs.map pairD) ∧ scanL ((wordsT t).take i) = some rs) ⟨_, _, _, _, _, [], [], rfl, fun _ _ _ e => e, hl1, .nil, rfl⟩ (fun i σ H' _ ⟨_, _, _, _, _, _, _, _, s, _⟩ => SqL.of (s _ _ hal ha)) ?_ ?_
      · rintro i y σ H2 H3 hi ⟨u2, u3, u4, u5, u6, xs, rs, rfl, s2, hl2, hd, hrs⟩ ⟨rfl, hy⟩
        obtain ⟨w, e1, rfl⟩ : ∃ w, (wordsT t)[i]? = some w ∧ y = .str w := by
          rw [List.getElem?_map] at hy
          cases e : (wordsT t)[i]? with
          | none => rw [e] at hy; cases hy
          | some q => rw [e] at hy; exact ⟨q, rfl, (Option.some.inj hy).symm⟩
        have hwm := List.mem_of_getElem? e1
        have hwt := word_len hwm
        have hpl := partC_len w
        have hxl : xs.length = i := by
          rw [dps_len hd, List.length_map, (scanL_mem hrs).1, List.length_take]
          rw [List.length_map] at hi
          omega
        rw [List.length_map] at hi
        have s03 : ∀ G, Same H3 G → Same H G := fun G sg z o e => sg _ _ (s2 z o (ne_fresh e hl) (s01 z o e))
        have bad : pairC w = none → ∀ G, Same H3 G → Q .non G := fun h G sg => k _ _ (s03 G sg) (by unfold scanT; rw [scanL_bad e1 h]; rfl)
        tm_at "wp"
        refine ⟨_, _, rfl, rfl, by decide +kernel, by rw [sizeLine_eq]; omega, ?_⟩
        intro pa hpa
        have tStar : Str.length (Str.ofString ":") ≤ sizeLine ∧ true = (((Str.length (Str.ofString ":") : Nat) : Int) != 0) := ⟨by decide +kernel, by decide +kernel⟩
        have tEmp : Str.length Str.empty ≤ sizeLine ∧ false = (((Str.length Str.empty : Nat) : Int) != 0) := ⟨by decide +kernel, by decide +kernel⟩
        have hdr2 := partC_dr (word_dr hdr hwm)
        have hps := partC_mark w
        obtain ⟨nm, st, dg, ep⟩ : ∃ nm st dg, Txt.partition w ":" = (nm, st, dg) := ⟨_, _, _, rfl⟩
        have e1w : pairC w = (if st = Str.empty then none else match numT dg with | some n => some (nm, n) | none => none) := by unfold pairC; rw [ep] <;> rfl
        rw [ep] at hdr2 hps hpl
        have hdr2 : DR 640 (TL.tl dg) := hdr2
        have hps : st = Str.empty ∨ st = ":" := hps
        have hpl : nm.length ≤ w.length ∧ dg.length ≤ w.length := hpl
        rw [show Txt.partition w (Str.ofString ":") = (nm, st, dg) from ep]
        clear ep
        tm_at "wp"
        refine w_gtup (SqT.of upd_same) rfl ?_
        tm_at "wp"
        rcases hps with rfl | rfl
        · refine ⟨false, tEmp, ?_⟩
          refine w_iteF ?_
          tm_at "wp"
          exact bad (by rw [e1w, if_pos rfl]) _ (same_new hpa)
        · refine ⟨true, tStar, ?_⟩
          refine w_iteT ?_
          tm_at "wp"
          refine ⟨dg, rfl, by omega, fun h => dr_num hdr2 h, fun H4 s4 => ?_⟩
          have hne : ¬ (":" : Str) = Str.empty := by decide +kernel
          rw [if_neg hne] at e1w
          cases hn : numT dg with
          | none =>
            rw [hn] at e1w
            tm_at "wp"
            exact bad e1w _ ((same_new hpa).trans s4)
          | some n =>
            rw [hn] at e1w
            tm_at "wp"
            have sg := (same_new (u := HO.tup [V.str nm, .str ":", .str dg]) hpa).trans s4
            have hl3 := sg _ _ hl2
            refine w_tyL hl3 ?_
            tm_at "wp"
            rename_i T hT
            have sgT : Same H3 (upd H4 T (.tup [.str nm, .int n])) := same_step sg hT
            refine w_append (hp_new hl3 hT) (sz_lt (by omega)) ⟨_, _, _, _, _, xs ++ [.ref T], rs ++ [(nm, n)], rfl, (fun z o hz e => ?_), upd_same, ?_, ?_⟩
            · rw [upd_ne hz]; exact sgT _ _ (s2 z o hz e)
            · have st : SameT (upd H4 T (.tup [.str nm, .int n])) (upd (upd H4 T (.tup [.str nm, .int n])) l (.lst (xs ++ [.ref T]))) := SameT.lst (hp_new hl3 hT)
              rw [List.map_append]
              refine dps_snoc ?_ ?_
              · exact dps_flat st (dps_same sgT hd) (by have := flat_bag rs; simpa [bagD, flatD] using this)
              · exact (pair_mk (st.sqt (SqT.of upd_same)) : Dp K _ (.ref T) (pairD (nm, n)))
            · rw [take_succ_snoc e1]; exact scanL_snoc hrs e1w
      · rintro σ H2 ⟨u2, u3, u4, u5, u6, xs, rs, rfl, s2, hl2, hd, hrs⟩
        rw [List.length_map, List.take_length] at hrs
        have s02 : Same H H2 := fun z o e => s2 z o (ne_fresh e hl) (s01 z o e)
        tm_at "wp"
        refine w_tupL (SqL.of hl2) ?_
        intro T hT
        refine k _ _ (same_step s02 hT) ?_
        unfold scanT
        rw [hrs]
        exact dp_dx (.tup (SqT.of upd_same) (dps_same (same_new hT) hd))
    all_goals (refine w_iteT ?_; tm_at "wp"; exact k _ _ (Same.refl _) rfl)
theorem ok_summary_or_none {P : Program} {w : World} {K : PySem.W.Frag} {mg : Str → Option Value} {base : Heap} (fr : Fre mg) (cl_Summary : ClsF K mg "Summary" ["capacity", "counts", "__bool__"]) (et_Summary___init___0 : ∀ H : Hp, SqT K H (dflA "Summary" "__init__" 0 K) []) (x_InvalidSummary : HasX P w K mg base "InvalidSummary" "index") (xm_InvalidSummary_InvalidSummary : PySem.W.exmOne K (.ref (He.ga K "InvalidSummary")) (.ref (He.ga K "InvalidSummary")) = some true) (D : Dfd K mg "summary_or_none" s_summary_or_none)
    (h_Summary___init__ : HasM P w K mg base (L2.CX P w) 5 "Summary" "__init__" "Summary.__init__" s_Summary___init__ [.ref (dflA "Summary" "__init__" 0 K)] ["self", "capacity", "counts"] (sp_Summary___init__ K)) : Has P w K mg base CX0 7 "summary_or_none" s_summary_or_none ["capacity", "counts"] (sp_summary_or_none K) := by
  refine D.has sc_summary_or_none (fun vs H Q E h => ?_) (fun cdv A outer s H vs Q E hr hg h => ?_)
  · obtain ⟨c, v, d, rfl, _⟩ := h; rfl
  · obtain ⟨c, v, d, rfl, c1, c8, hd, hz, k, kN⟩ := h
    have nd := sc_summary_or_none.nd
    refine ⟨_, PSs.nox (pss_one (ps_try_mk K (X := (cxOf CX0 P _ K mg base N_summary_or_none "summary_or_none" (defScope s_summary_or_none) (He.ga K "summary_or_none") cdv A outer s H E).nox) (c := .ref (He.ga K "InvalidSummary")) cl_Summary h_Summary___init__ bj_Summary___init___3 (hr.mono (by decide)) hg rfl (fun pn xe => (pa_cons (pv 0) (pa_cons (pv 1) pa_nil))) (fun _ _ => rfl) rfl rfl ⟨rfl, by decide, .inl x_InvalidSummary.k.glo⟩ (fun a oe cls d pn _ _ => (pss_one (ps_ret pe_non))))), ?_⟩
    try dsimp only [cxOf]
    tm_at "wp"
    refine w_mkSumX (fun _ => rfl) (.int c) hd hz (fun hb => ?_) (fun c' e _ _ => ?_)
    · exfalso
      have : (decide (1 ≤ c) && decide (c ≤ 8)) = false := hb
      rw [decide_eq_true c1, decide_eq_true c8] at this
      cases this
    · cases e
      refine ⟨fun ho a dx H' s ha => k ho a dx H' s ha, fun hn dd H' s hdd => ?_⟩
      intro σ'
      refine ⟨true, xm_InvalidSummary_InvalidSummary, fun _ a _ => ?_, nofun⟩
      tm_at "wp"
      exact kN hn _ s
theorem ok_parse_summary {P : Program} {w : World} {K : PySem.W.Frag} {mg : Str → Option Value} {base : Heap} (fr : Fre mg) (x_InvalidText : HasX P w K mg base "InvalidText" "text") (D : Dfd K mg "parse_summary" s_parse_summary)
    (h_check_capacity : Has P w K mg base (L2.CX P w) 4 "check_capacity" s_check_capacity ["thing"] (sp_check_capacity K))
    (h_summary_or_none : Has P w K mg base CX0 7 "summary_or_none" s_summary_or_none ["capacity", "counts"] (sp_summary_or_none K))
    (h_scan_counts : Has P w K mg base CX0 2 "scan_counts" s_scan_counts ["text"] (sp_scan_counts K)) : Has P w K mg base (L2.CX P w) 8 "parse_summary" s_parse_summary ["capacity", "text"] (sp_parse_summary K) := by
  refine D.has sc_parse_summary (fun vs H Q E h => ?_) (fun cdv A outer s H vs Q E hr hg h => ?_)
  · obtain ⟨v1, v, d1, d, rfl, _⟩ := h; rfl
  · obtain ⟨v1, v, d1, d, rfl, h1, hd, ht, kC, k⟩ := h
    have nd := sc_parse_summary.nd
    refine ⟨_, (pss_cons (ps_expr (pe_fn h_check_capacity pb_check_capacity (hr.mono (by decide)) hg rfl (passE takesE) (pa_cons (pv 0) pa_nil)))
      (pss_cons (ps_set (i := 2) nd rfl (Or.inl rfl) (pe_fn h_summary_or_none pb_summary_or_none (hr.mono (by decide)) hg rfl pass0 (pa_cons (pv 0) (pa_cons (pe_fn h_scan_counts pb_scan_counts (hr.mono (by decide)) hg rfl pass0 (pa_cons (pv 1) pa_nil)) pa_nil))))
      (pss_cons (ps_if (pt_cmpR o_isN (pv 2) pe_non (nomark _)) (pss_one (ps_rai K x_InvalidText rfl takesE (hr.mono (by decide)) rfl (pv 1))) pss_nil)
      (pss_one (ps_ret (pv 2)))))), ?_⟩
    try dsimp only [cxOf]
    tm_at "wp"
    refine ⟨v1, d1, rfl, h1, fun hb => ?_, kC⟩
    obtain ⟨c, rfl, c1, c8⟩ : ∃ c, d1 = .int c ∧ 1 ≤ c ∧ c ≤ 8 := by
      cases d1 with
      | int c =>
        have hb : (decide (1 ≤ c) && decide (c ≤ 8)) = true := hb
        rw [Bool.and_eq_true, decide_eq_true_eq, decide_eq_true_eq] at hb
        exact ⟨c, rfl, hb.1, hb.2⟩
      | _ => cases hb
    cases dx_int_inv h1
    obtain ⟨k, kE⟩ := k c rfl c1 c8
    tm_at "wp"
    refine ⟨v, d, rfl, hd, ht, fun v' H1 s1 hv => ?_⟩
    obtain ⟨e, he, hz, hw⟩ := hv.data ht
    obtain ⟨w1, w2⟩ := hw c
    tm_at "wp"
    refine ⟨c, v', e, rfl, c1, c8, he, hz, fun ho a dx H2 s2 ha => ?_, fun hn H2 s2 => ?_⟩
    · obtain ⟨ps, rfl, hok, hl, hc⟩ := w1 ho
      tm_at "wp"
      exact k ps hc _ _ (s1.trans s2) ⟨a, dx, v', rfl, ha, dx_bag (dx_same s2 he)⟩
    · tm_at "wp"
      refine w_rai ?_
      tm_at "wp"
      exact w_raic fun dx hdx => kE (w2 hn) dx _ ((s1.trans s2).trans (same_new hdx)) upd_same
theorem ok_parse_counts {P : Program} {w : World} {K : PySem.W.Frag} {mg : Str → Option Value} {base : Heap} (fr : Fre mg) (x_InvalidText : HasX P w K mg base "InvalidText" "text") (D : Dfd K mg "parse_counts" s_parse_counts)
    (h_scan_counts : Has P w K mg base CX0 2 "scan_counts" s_scan_counts ["text"] (sp_scan_counts K))
    (h_is_counts : Has P w K mg base CX0 5 "is_counts" s_is_counts ["thing"] (sp_is_counts K)) : Has P w K mg base (L2.CX P w) 6 "parse_counts" s_parse_counts ["text"] (sp_parse_counts K) := by
  refine D.has sc_parse_counts (fun vs H Q E h => ?_) (fun cdv A outer s H vs Q E hr hg h => ?_)
  · obtain ⟨v, d, rfl, _⟩ := h; rfl
  · obtain ⟨v, d, rfl, hd, ht, k, kE⟩ := h
    have nd := sc_parse_counts.nd
    refine ⟨_, (pss_cons (ps_set (i := 1) nd rfl (Or.inl rfl) (pe_fn h_scan_counts pb_scan_counts (hr.mono (by decide)) hg rfl pass0 (pa_cons (pv 0) pa_nil)))
      (pss_cons (ps_if (pt_not (pt_val (pe_fn h_is_counts pb_is_counts (hr.mono (by decide)) hg rfl pass0 (pa_cons (pv 1) pa_nil)))) (pss_one (ps_rai K x_InvalidText rfl takesE (hr.mono (by decide)) rfl (pv 0))) pss_nil)
      (pss_one (ps_ret (pv 1))))), ?_⟩
    try dsimp only [cxOf]
    tm_at "wp"
    refine ⟨v, d, rfl, hd, ht, fun v' H1 s1 hv => ?_⟩
    obtain ⟨e, he, hz, hw⟩ := hv.data ht
    tm_at "wp"
    refine ⟨v', e, rfl, he, hz, fun H2 s2 => ?_⟩
    refine w_bl ?_
    obtain ⟨w1, w2⟩ := hw 12
    cases hv2 : verOk (badF 12) e with
    | true =>
      obtain ⟨ps, rfl, ho, hl, hc⟩ := w1 hv2
      rw [if_neg (show ¬ (!true) = true by decide)]
      tm_at "wp"
      exact k ps hc _ _ (s1.trans s2) (dx_bag (dx_same s2 he))
    | false =>
      rw [if_pos (show (!false) = true from rfl)]
      refine w_rai ?_
      tm_at "wp"
      exact w_raic fun dx hdx => kE (w2 hv2) dx _ ((s1.trans s2).trans (same_new hdx)) upd_same
theorem ok__law_cell {P : Program} {w : World} {K : PySem.W.Frag} {mg : Str → Option Value} {base : Heap} (fr : Fre mg) (D : Dfd K mg "_law_cell" s__law_cell) : Has P w K mg base CX0 1 "_law_cell" s__law_cell ["_law_script", "_law_k"] (sp__law_cell K) := by
  refine D.has sc__law_cell (fun vs H Q E h => ?_) (fun cdv A outer s H vs Q E hr hg h => ?_)
  · obtain ⟨a, ns, j, rfl, _⟩ := h; rfl
  · obtain ⟨a, ns, j, rfl, hs, hn, h0, h1, k⟩ := h
    have nd := sc__law_cell.nd
    refine ⟨_, PSs.nox (pss_cons (ps_if (pt_cmpR op_lt (pv 1) (pe_callB (k_len K) rfl fr.len_ (by decide +kernel) (pa_cons (pv 0) pa_nil)) (nomark _)) (pss_one (ps_ret (pe_ix (k_ixL K) (pv 0) (pv 1) (fun _ _ => rfl)))) pss_nil)
      (pss_cons (ps_set (i := 2) nd rfl (Or.inl rfl) (pe_op op_mod (pe_op op_mul pe_int (pe_op op_add (pe_op op_add (pe_op op_mul (pv 1) (pv 1)) (pe_op op_mul pe_int (pv 1))) pe_int)) pe_int))
      (pss_cons (ps_for PassesOwn.never rfl (k_iList K (pe_slice (k_slL K) (pv 0) po_none (po_some pe_int))) (pg_name (i := 3) nd rfl (Or.inl rfl))
        (pss_one (ps_set (i := 2) nd rfl (Or.inl rfl) (pe_op op_mod (pe_op op_add (pe_op op_mul (pv 2) pe_int) (pv 3)) pe_int))))
      (pss_one (ps_ret (pv 2)))))), ?_⟩
    try dsimp only [cxOf]
    tm_at "wp"
    refine w_lenL hs ?_
    tm_at "wp"
    refine w_ited (fun h2 => ?_) (fun h2 => ?_)
    · tm_at "wp"
      rw [List.length_map] at h2
      have h3 : j.toNat < ns.length := by omega
      refine w_ixL hs (v := .int ns[j.toNat]) ?_ ?_
      · exact at_of (j := j.toNat) (by omega) (by simp [h3])
      · exact k _ _ (Same.refl _)
    · tm_at "wp"
      refine w_slL hs ?_
      intro p hp
      refine w_onL (SqL.of upd_same) ?_
      have s0 : Same H (upd H p (.lst (cutV (ns.map V.int) none (some 3)))) := same_new hp
      refine for_go (walk_list (xs := cutV (ns.map V.int) none (some 3))) (fun i σ H' => ∃ z u, σ = [some (.ref a), some (.int j), some (.int z), u] ∧ 0 ≤ z ∧ z < 1000000007 ∧ H' = upd H p (.lst (cutV (ns.map V.int) none (some 3)))) ⟨_, none, rfl, Int.emod_nonneg _ (by decide), Int.emod_lt_of_pos _ (by decide), rfl⟩ (fun i σ H' _ ⟨_, _, _, _, _, e⟩ => by rw [e]; exact SqL.of upd_same) ?_ ?_
      · rintro i v σ H1 H2 hi ⟨z, u, rfl, z0, z1, rfl⟩ ⟨rfl, hy⟩
        obtain ⟨m, rfl⟩ : ∃ m, v = .int m := by
          have hm := List.mem_of_getElem? hy
          unfold cutV at hm
          have hm2 := List.mem_of_mem_drop (List.mem_of_mem_take hm)
          obtain ⟨m, _, e⟩ := List.mem_map.mp hm2
          exact ⟨m, e.symm⟩
        tm_at "wp"
        exact ⟨_, _, rfl, Int.emod_nonneg _ (by decide), Int.emod_lt_of_pos _ (by decide), rfl⟩
      · rintro σ H1 ⟨z, u, rfl, z0, z1, rfl⟩
        tm_at "wp"
        exact k _ _ s0
theorem okc__law_pool {P : Program} {w : World} {K : PySem.W.Frag} {mg : Str → Option Value} {base : Heap} (fr : Fre mg) (D : Dfd K mg "_law_pool" s__law_pool) : Has P w K mg base CX0 1 "_law_pool" s__law_pool ["_law_cell_here"] (spc__law_pool K) := by
  refine D.has sc__law_pool (fun vs H Q E h => ?_) (fun cdv A outer s H vs Q E hr hg h => ?_)
  · obtain ⟨n, rfl, _⟩ := h; rfl
  · obtain ⟨n, rfl, k⟩ := h
    have nd := sc__law_pool.nd
    refine ⟨_, PSs.nox (pss_cons (ps_set (i := 1) nd rfl (Or.inl rfl) pe_int)
      (pss_cons (ps_if (PW.pt (pw_or (pt_cmpR op_lt (pv 0) pe_int (nomark _)) (pw_or1 (pt_cmpR op_ge (pv 0) (pe_op op_pow pe_int pe_int) (nomark _))))) (pss_one (ps_set (i := 1) nd rfl (Or.inl rfl) (pe_callB c_abs rfl fr.abs_ (by decide +kernel) (pa_cons (pv 0) pa_nil)))) pss_nil)
      (pss_one (ps_ret (pe_lst (pa_cons (pe_op op_mod (pv 0) pe_int) (pa_cons (pv 1) (pa_cons pe_int pa_nil)))))))), ?_⟩
    try dsimp only [cxOf]
    have fin : ∀ (d : Int) (H' : Hp), 0 ≤ d → Same H H' → ∀ p, H' p = none → Q (.ref p) (upd H' p (.lst [.int (n % 1000000007), .int d, .int 0])) := fun d H' hd s p hp =>
      k p _ _ _ _ (s.free hp) (same_step s hp) upd_same ⟨Int.emod_nonneg _ (by decide), Int.emod_lt_of_pos _ (by decide), hd, Int.le_refl 0⟩
    tm_at "wp"
    refine w_ited (fun h1 => ?_) (fun h1 => ?_)
    · tm_at "wp"
      rename_i hp
      exact fin _ _ (by split <;> omega) (Same.refl _) _ hp
    · tm_at "wp"
      refine w_ited (fun h2 => ?_) (fun h2 => ?_)
      · tm_at "wp"
        rename_i hp
        exact fin _ _ (by split <;> omega) (Same.refl _) _ hp
      · tm_at "wp"
        rename_i hp
        exact fin _ _ (Int.le_refl 0) (Same.refl _) _ hp
theorem ok__law_pool {P : Program} {w : World} {K : PySem.W.Frag} {mg : Str → Option Value} {base : Heap} (fr : Fre mg) (D : Dfd K mg "_law_pool" s__law_pool) : Has P w K mg base CX0 1 "_law_pool" s__law_pool ["_law_cell_here"] (sp__law_pool K) := has_pool (okc__law_pool fr D) rfl
theorem okc__law_draw {P : Program} {w : World} {K : PySem.W.Frag} {mg : Str → Option Value} {base : Heap} (fr : Fre mg) (D : Dfd K mg "_law_draw" s__law_draw) : Has P w K mg base CX0 1 "_law_draw" s__law_draw ["_law_pool_here", "_law_many"] (spc__law_draw K) := by
  refine D.has sc__law_draw (fun vs H Q E h => ?_) (fun cdv A outer s H vs Q E hr hg h => ?_)
  · obtain ⟨p, s0, d0, c0, m, rfl, _⟩ := h; rfl
  · obtain ⟨p, s0, d0, c0, m, rfl, hp, hv, m0, m1, k⟩ := h
    have nd := sc__law_draw.nd
    refine ⟨_, PSs.nox (pss_cons (ps_asg (pe_op op_add (pe_ix (k_ixL K) (pv 0) pe_int (fun _ _ => rfl)) pe_int) (pg_sub (pv 0) pe_int set_list))
      (pss_cons (ps_set (i := 2) nd rfl (Or.inl rfl) (pe_ix (k_ixL K) (pv 0) pe_int (fun _ _ => rfl)))
      (pss_cons (ps_asg (pe_op op_mod (pe_callTy c_int1 rfl fr.int_ (by decide +kernel) (pa_cons (pe_op op_add (pe_op op_add (pe_op op_mul (pv 2) (pe_op op_add (pe_op op_mod (pe_callTy c_int1 rfl fr.int_ (by decide +kernel) (pa_cons (pv 2) pa_nil)) pe_int) pe_int)) (pe_op op_mul pe_int (pe_ix (k_ixL K) (pv 0) pe_int (fun _ _ => rfl)))) pe_int) pa_nil)) pe_int) (pg_sub (pv 0) pe_int set_list))
      (pss_cons (ps_if (pt_cmpR op_gt (pe_ix (k_ixL K) (pv 0) pe_int (fun _ _ => rfl)) pe_int (nomark _)) (pss_cons (ps_asg (pe_callB c_divmod rfl fr.divmod_ (by decide +kernel) (pa_cons (pe_ix (k_ixL K) (pv 0) pe_int (fun _ _ => rfl)) (pa_cons (pv 1) pa_nil))) (k_gtup K rfl (pgs_cons (pg_sub (pv 0) pe_int set_list) (pgs_cons (pg_name (i := 3) nd rfl (Or.inl rfl)) pgs_nil))))
      (pss_one (ps_ret (pv 3)))) pss_nil)
      (pss_one (ps_ret (pe_op op_mod (pe_op op_fdiv (pe_ix (k_ixL K) (pv 0) pe_int (fun _ _ => rfl)) pe_int) (pv 1)))))))), ?_⟩
    try dsimp only [cxOf]
    obtain ⟨v0, v1, v2, v3⟩ := hv
    tm_at "wp"
    refine w_ixL (SqL.of hp) (v := .int c0) rfl ?_
    tm_at "wp"
    refine w_setL hp (j := 2) rfl ?_
    tm_at "wp"
    refine w_ixL (SqL.of upd_same) (v := .int s0) rfl ?_
    tm_at "wp"
    refine w_ixL (SqL.of upd_same) (v := .int (c0 + 1)) rfl ?_
    tm_at "wp"
    refine w_setL upd_same (j := 0) rfl ?_
    tm_at "wp"
    generalize hs1 : (s0 * (s0 % 46007 + 20011) + 60013 * (c0 + 1) + 5) % 1000000007 = s1
    have b0 : 0 ≤ s1 := by rw [← hs1]; exact Int.emod_nonneg _ (by decide)
    have b1 : s1 < 1000000007 := by rw [← hs1]; exact Int.emod_lt_of_pos _ (by decide)
    rw [upd_upd]
    have sb : ∀ l : HO, SameB p H (upd H p l) := fun l => SameB.upd
    refine w_ixL (SqL.of upd_same) (v := .int d0) rfl ?_
    tm_at "wp"
    refine w_ited (fun h1 => ?_) (fun h1 => ?_)
    · tm_at "wp"
      refine w_ixL (SqL.of upd_same) (v := .int d0) rfl ?_
      tm_at "wp"
      refine w_divW (divp200 m0 m1) ?_
      intro q hq
      have npq : p ≠ q := ne_of_none (upd_same (H := H) (a := p)) hq
      refine w_gtup (SqT.of upd_same) rfl ?_
      tm_at "wp"
      refine w_setL ((upd_ne npq).trans upd_same) (j := 1) rfl ?_
      tm_at "wp"
      refine k _ s1 (d0 / m) (c0 + 1) _ (Int.emod_nonneg _ (by omega)) (Int.emod_lt_of_pos _ m0) (fun b o nb e => ?_) upd_same ⟨b0, b1, Int.ediv_nonneg v2 (by omega), by omega⟩
      rw [upd_ne nb]
      have e2 := sb (.lst [.int s1, .int d0, .int (c0 + 1)]) b o nb e
      exact hp_new e2 hq
    · tm_at "wp"
      refine w_ixL (SqL.of upd_same) (v := .int s1) rfl ?_
      tm_at "wp"
      refine k _ s1 d0 (c0 + 1) _ (Int.emod_nonneg _ (by omega)) (Int.emod_lt_of_pos _ m0) (sb _) upd_same ⟨b0, b1, v2, by omega⟩
theorem ok__law_draw {P : Program} {w : World} {K : PySem.W.Frag} {mg : Str → Option Value} {base : Heap} (fr : Fre mg) (D : Dfd K mg "_law_draw" s__law_draw) : Has P w K mg base CX0 1 "_law_draw" s__law_draw ["_law_pool_here", "_law_many"] (sp__law_draw K) := has_draw (okc__law_draw fr D) rfl
theorem ok__law_words {P : Program} {w : World} {K : PySem.W.Frag} {mg : Str → Option Value} {base : Heap} (fr : Fre mg) (D : Dfd K mg "_law_words" s__law_words)
    (h__law_draw : Has P w K mg base CX0 1 "_law_draw" s__law_draw ["_law_pool_here", "_law_many"] (sp__law_draw K)) : Has P w K mg base CX0 2 "_law_words" s__law_words ["_law_pool_here", "_law_many"] (sp__law_words K) := by
  refine D.has sc__law_words (fun vs H Q E h => ?_) (fun cdv A outer s H vs Q E hr hg h => ?_)
  · obtain ⟨p, m, rfl, _⟩ := h; rfl
  · obtain ⟨p, m, rfl, hp, m0, m1, k⟩ := h
    have nd := sc__law_words.nd
    refine ⟨_, PSs.nox (pss_cons (ps_set (i := 2) nd rfl (Or.inr rfl) pe_str)
      (pss_cons (ps_set (i := 3) nd rfl (Or.inr rfl) (pe_lst (pa_cons pe_str (pa_cons pe_str (pa_cons pe_str (pa_cons pe_str (pa_cons pe_str (pa_cons pe_str (pa_cons pe_str (pa_cons pe_str (pa_cons pe_str (pa_cons pe_str (pa_cons pe_str pa_nil)))))))))))))
      (pss_cons (ps_set (i := 3) nd rfl (Or.inr rfl) (pe_op op_cat (pv 3) (pe_lst (pa_cons pe_str (pa_cons pe_str (pa_cons pe_str (pa_cons pe_str pa_nil)))))))
      (pss_cons (ps_asg (pe_tup (pa_cons (pe_fn h__law_draw pb__law_draw (hr.mono (by decide)) hg rfl pass0 (pa_cons (pv 0) (pa_cons pe_int pa_nil))) (pa_cons (pe_fn h__law_draw pb__law_draw (hr.mono (by decide)) hg rfl pass0 (pa_cons (pv 0) (pa_cons pe_int pa_nil))) pa_nil))) (k_gtup K rfl (pgs_cons (pg_name (i := 4) nd rfl (Or.inl rfl)) (pgs_cons (pg_name (i := 5) nd rfl (Or.inr rfl)) pgs_nil))))
      (pss_cons (ps_if (pt_cmpR op_eq (pv 4) pe_int (nomark _)) (pss_one (ps_ret (pe_lc (own := [("_law_k", 6)]) (g := gName 6) (tt := tYes) rfl nd (pi_range1 rfl fr.range_ (pa_cons (pv 1) pa_nil)) (blkOk_by (own := [("_law_k", 6)]) (N := N__law_words) (sc := defScope s__law_words) (by decide +kernel)) (fun _ _ _ _ _ => (pg_name (i := 6) nd rfl (Or.inl rfl))) (fun _ _ _ _ _ => pts_nil) (fun _ _ _ _ _ => (pe_ix (k_ixL K) (pv 3) (pe_op op_mod (pe_op op_add (pv 5) (pe_op op_mul pe_int (pv 6))) pe_int) (fun _ _ => rfl)))))) pss_nil)
      (pss_cons (ps_if (pt_cmpR op_eq (pv 4) pe_int (nomark _)) (pss_one (ps_ret (pe_lc (own := [("_law_k", 6)]) (g := gName 6) (tt := tYes) rfl nd (pi_range1 rfl fr.range_ (pa_cons (pv 1) pa_nil)) (blkOk_by (own := [("_law_k", 6)]) (N := N__law_words) (sc := defScope s__law_words) (by decide +kernel)) (fun _ _ _ _ _ => (pg_name (i := 6) nd rfl (Or.inl rfl))) (fun _ _ _ _ _ => pts_nil) (fun _ _ _ _ _ => (pe_op o_mulS (pe_ix ix_str (pv 2) (pe_op op_mod (pe_op op_add (pv 5) (pe_op op_mul pe_int (pv 6))) pe_int) (fun _ _ => rfl)) (pe_op op_add pe_int (pe_op op_mod (pv 6) pe_int))))))) pss_nil)
      (pss_cons (ps_set (i := 7) nd rfl (Or.inr rfl) (k_join K pe_str (pe_lc (own := [("_law_k", 6)]) (g := gName 6) (tt := tYes) rfl nd (pi_range1 rfl fr.range_ (pa_cons (pe_fn h__law_draw pb__law_draw (hr.mono (by decide)) hg rfl pass0 (pa_cons (pv 0) (pa_cons pe_int pa_nil))) pa_nil)) (blkOk_by (own := [("_law_k", 6)]) (N := N__law_words) (sc := defScope s__law_words) (by decide +kernel)) (fun _ _ _ _ _ => (pg_name (i := 6) nd rfl (Or.inl rfl))) (fun _ _ _ _ _ => pts_nil) (fun _ _ _ _ _ => (pe_ix ix_str (pv 2) (pe_fn h__law_draw pb__law_draw (hr.mono (by decide)) hg rfl pass0 (pa_cons (pv 0) (pa_cons pe_int pa_nil))) (fun _ _ => rfl))))))
      (pss_cons (ps_set (i := 8) nd rfl (Or.inr rfl) (pe_fn h__law_draw pb__law_draw (hr.mono (by decide)) hg rfl pass0 (pa_cons (pv 0) (pa_cons (pe_op op_add (pe_callB (k_len K) rfl fr.len_ (by decide +kernel) (pa_cons (pv 7) pa_nil)) pe_int) pa_nil))))
      (pss_one (ps_ret (pe_lc (own := [("_law_k", 6)]) (g := gName 6) (tt := tYes) rfl nd (pi_range1 rfl fr.range_ (pa_cons (pv 1) pa_nil)) (blkOk_by (own := [("_law_k", 6)]) (N := N__law_words) (sc := defScope s__law_words) (by decide +kernel)) (fun _ _ _ _ _ => (pg_name (i := 6) nd rfl (Or.inl rfl))) (fun _ _ _ _ _ => pts_nil) (fun _ _ _ _ _ => (pe_op o_addS (pe_op o_addS (pe_slice sl_str (pv 7) po_none (po_some (pv 8))) (pe_ix ix_str (pv 2) (pe_op op_mod (pe_op op_add (pv 5) (pe_op op_mul pe_int (pv 6))) pe_int) (fun _ _ => rfl))) (pe_slice sl_str (pv 7) (po_some (pv 8)) po_none)))))))))))))), ?_⟩
    try dsimp only [cxOf]
    have fin : ∀ (f : Nat → Str) (D0 : Addr) (acc : List V) (H1 H2 : Hp), Same H H1 → H1 D0 = none → Same H1 H2 → H2 D0 = some (.lst acc) → acc.length = m.toNat → (∀ (i : Nat) (y : V), acc[i]? = some y → y = .str (f i)) → (((List.range 15).map f).Nodup ∧ ∀ w ∈ (List.range 15).map f, isName w = true) → Q (.ref D0) H2 := by
      intro f D0 acc H1 H2 s1 h0 s2 ha hl hf hw
      refine k D0 ((List.range m.toNat).map f) H2 (s1.free h0) (s1.trans s2) ?_ (words_mk (by omega) hw)
      rw [ha]
      have e : acc = (List.range m.toNat).map fun i => V.str (f i) := acc_map (by simpa using hl) fun i y e => by
        obtain ⟨h3, _⟩ := List.getElem?_eq_some_iff.mp e
        exact ⟨i, List.getElem?_range (by omega), hf i y e⟩
      rw [e, List.map_map]; rfl
    tm_at "wp"
    rename_i A hA B hB
    refine w_cat (xs := (menuW.take 11).map V.str) (zs := (menuW.drop 11).map V.str) (hp_new upd_same hB) upd_same (sz_le (by decide)) ?_
    intro ml hml
    have s0 : Same H _ := ((same_new hA (u := HO.lst ((menuW.take 11).map V.str))).trans (same_new hB (u := HO.lst ((menuW.drop 11).map V.str)))).trans (same_new hml (u := HO.lst ((menuW.take 11).map V.str ++ (menuW.drop 11).map V.str)))
    have f0 := @upd_same (upd (upd H A (HO.lst ((menuW.take 11).map V.str))) B (HO.lst ((menuW.drop 11).map V.str))) ml (HO.lst ((menuW.take 11).map V.str ++ (menuW.drop 11).map V.str))
    tm_at "wp"
    refine ⟨p, 3, rfl, s0 _ _ hp, by decide, by decide, fun way H1 w0 w1 s1 => ?_⟩
    tm_at "wp"
    refine ⟨p, 15, rfl, s1 _ _ (s0 _ _ hp), by decide, by decide, fun b H2 b0 b1 s2 => ?_⟩
    have s02 : Same H H2 := (s0.trans s1).trans s2
    have hm2 : SqL K H2 ml (menuW.map V.str) := SqL.of (s2 _ _ (s1 _ _ f0))
    have hp2 : H2 p = some (poolO p) := s02 _ _ hp
    tm_at "wp"
    rename_i tp htp
    refine w_gtup (SqT.of upd_same) rfl ?_
    have s3 : Same H2 (upd H2 tp (.tup [.int way, .int b])) := same_new htp
    have s03 := s02.trans s3
    generalize hH3 : upd H2 tp (.tup [.int way, .int b]) = H3 at s3 s03
    have hm3 := s3.seq hm2
    have hp3 := s3 _ _ hp2
    tm_at "wp"
    refine w_ited (fun h1 => ?_) (fun h1 => ?_)
    · tm_at "wp"
      refine w_onR1 ⟨by omega, by omega⟩ ?_
      intro D0 hD
      refine lc_map walk_range (n := m.toNat) (by omega) (fun i y => y = .str (wordA b.toNat i)) hD (fun _ _ => trivial) ?_ ?_ mono_gname
      · rintro i y H4 H5 hi s4 ⟨rfl, rfl⟩ Qy hq
        refine w_gname ⟨rfl, ?_⟩
        tm_at "wp"
        refine w_ixL (s4.seq hm3) (v := .str (wordA b.toNat i)) ?_ (hq _ _ (Same.refl _) rfl)
        refine at_of (j := (b.toNat + 4 * i) % 15) (by omega) ?_
        have hlt : (b.toNat + 4 * i) % 15 < menuW.length := by show _ < 15; omega
        rw [List.getElem?_map, List.getElem?_eq_getElem hlt]
        simp [wordA, List.getD, List.getElem?_eq_getElem hlt]
      · intro acc H4 s4 h0 ha hl hf
        exact fin _ D0 acc H3 H4 s03 h0 s4 ha hl hf (wordA_all b.toNat (by omega))
    · tm_at "wp"
      refine w_ited (fun h2 => ?_) (fun h2 => ?_)
      · tm_at "wp"
        refine w_onR1 ⟨by omega, by omega⟩ ?_
        intro D0 hD
        refine lc_map walk_range (n := m.toNat) (by omega) (fun i y => y = .str (wordB b.toNat i)) hD (fun _ _ => trivial) ?_ ?_ mono_gname
        · rintro i y H4 H5 hi s4 ⟨rfl, rfl⟩ Qy hq
          refine w_gname ⟨rfl, ?_⟩
          tm_at "wp"
          refine w_ixS (z := letters) (by decide +kernel) (letters_at (Int.emod_nonneg _ (by decide)) (Int.emod_lt_of_pos _ (by decide))) ?_
          tm_at "wp"
          refine w_mulS (n := 1 + i % 8) (by omega) (by show 1 * _ ≤ _; omega) (by omega) (hq _ _ (Same.refl _) ?_)
          unfold wordB
          rw [show ((b + 7 * (0 + (i : Int))) % 26).toNat = (b.toNat + 7 * i) % 26 by omega]
        · intro acc H4 s4 h0 ha hl hf
          exact fin _ D0 acc H3 H4 s03 h0 s4 ha hl hf (wordB_all b.toNat (by omega))
      · tm_at "wp"
        refine ⟨p, 8, rfl, hp3, by decide, by decide, fun n8 H4 n0 n1 s4 => ?_⟩
        tm_at "wp"
        refine w_onR1 ⟨by omega, by omega⟩ ?_
        intro D0 hD
        have hp4 := s4 _ _ hp3
        refine lc_map walk_range (n := n8.toNat) (by omega) (fun i y => ∃ c, y = .str ⟨#[c]⟩ ∧ isLet c = true) hD (fun _ _ => trivial) ?_ ?_ mono_gname
        · rintro i y H5 H6 hi s5 ⟨rfl, rfl⟩ Qy hq
          refine w_gname ⟨rfl, ?_⟩
          tm_at "wp"
          refine ⟨p, 26, rfl, s5 _ _ hp4, by decide, by decide, fun c H6 c0 c1 s6 => ?_⟩
          tm_at "wp"
          refine w_ixS (z := letters) (by decide +kernel) (letters_at c0 c1) (hq _ _ s6 ⟨_, rfl, ?_⟩)
          unfold isLet
          rw [decide_eq_true (by omega), decide_eq_true (by omega)]; rfl
        · intro acc H5 s5 h0 ha hl hf
          obtain ⟨ys, ey, hy⟩ : ∃ ys : List Str, acc = ys.map V.str ∧ ∀ y ∈ ys, ∃ c, y = ⟨#[c]⟩ ∧ isLet c = true := by
            refine ⟨acc.map fun v => match v with | .str y => y | _ => Str.empty, ?_, fun y hy => ?_⟩
            · rw [List.map_map]
              refine (List.map_id acc).symm.trans (List.map_congr_left fun v hv => ?_)
              obtain ⟨i, hi, e⟩ := List.mem_iff_getElem.mp hv
              obtain ⟨c, e2, _⟩ := hf i v (by rw [List.getElem?_eq_getElem hi, e])
              subst e2; rfl
            · obtain ⟨v, hv, e⟩ := List.mem_map.mp hy
              obtain ⟨i, hi, e1⟩ := List.mem_iff_getElem.mp hv
              obtain ⟨c, e2, hc⟩ := hf i v (by rw [List.getElem?_eq_getElem hi, e1])
              subst e2
              exact ⟨c, e.symm, hc⟩
          have hyl : ys.length = n8.toNat := by rw [← hl, ey, List.length_map]
          have flat : ∀ l : List Str, (∀ y ∈ l, ∃ c, y = ⟨#[c]⟩ ∧ isLet c = true) → (l.map fun y => y.cps.toList).flatten.length = l.length ∧ (∀ c ∈ (l.map fun y => y.cps.toList).flatten, isLet c = true) ∧ (l.map (·.length)).sum = l.length := by
            intro l
            induction l with
            | nil => intro _; simp
            | cons y r ih =>
              intro h
              obtain ⟨c, rfl, hc⟩ := h _ List.mem_cons_self
              obtain ⟨i1, i2, i3⟩ := ih fun z hz => h z (List.mem_cons_of_mem _ hz)
              refine ⟨by simp at i1 ⊢; omega, fun d hd => ?_, ?_⟩
              · simp at hd
                rcases hd with h1 | h1
                · rw [h1]; exact hc
                · exact i2 d (by simpa using h1)
              · simp only [List.map_cons, List.sum_cons, List.length_cons]
                have : (⟨#[c]⟩ : Str).length = 1 := rfl
                omega
          obtain ⟨f1, f2, f3⟩ := flat ys hy
          subst ey
          refine w_join (SqL.of ha) (by rw [f3]; show _ + _ * 0 ≤ _; omega) ?_
          rw [txt_join_eq]
          generalize hst : Str.join (Str.ofString "") ys = stem
          have est : stem.cps.toList = (ys.map fun y => y.cps.toList).flatten := by rw [← hst]; exact join0_list ys
          have lst : stem.length = n8.toNat := by rw [len_list, est, f1, hyl]
          have s05 : Same H H5 := (s03.trans s4).trans s5
          tm_at "wp"
          refine w_lenS (sz_le (by omega)) ?_
          tm_at "wp"
          refine ⟨p, _, rfl, s05 _ _ hp, by omega, by omega, fun at_ H6 a0 a1 s6 => ?_⟩
          have s06 := s05.trans s6
          obtain ⟨q, rfl⟩ := Int.eq_ofNat_of_zero_le a0
          have hsz : stem.cps.size = stem.length := rfl
          tm_at "wp"
          refine w_onR1 ⟨by omega, by omega⟩ ?_
          intro D1 hD1
          refine lc_map walk_range (n := m.toNat) (by omega) (fun i y => y = .str (wordC b.toNat (stem.cps.toList.take q) (stem.cps.toList.drop q) i)) hD1 (fun _ _ => trivial) ?_ ?_ mono_gname
          · rintro i y H7 H8 hi s7 ⟨rfl, rfl⟩ Qy hq
            have c1 : cutS stem none (some ((q : Nat) : Int)) = ⟨(stem.cps.toList.take q).toArray⟩ := by
              unfold cutS
              rw [HT.sIx_nat, HT.sIx_none, Nat.min_eq_left (by omega)]
              simp
            have c2 : cutS stem (some ((q : Nat) : Int)) none = ⟨(stem.cps.toList.drop q).toArray⟩ := by
              unfold cutS
              rw [HT.sIx_nat, HT.sIx_none, Nat.min_eq_left (by omega)]
              have : stem.cps.toList.length = stem.length := (len_list stem).symm
              rw [List.take_of_length_le (by rw [List.length_drop]; omega)]
            refine w_gname ⟨rfl, ?_⟩
            tm_at "wp"
            refine w_slS (sz_le (by omega)) ?_
            tm_at "wp"
            refine w_ixS (z := letters) (by decide +kernel) (letters_at (Int.emod_nonneg _ (by decide)) (Int.emod_lt_of_pos _ (by decide))) ?_
            rw [c1]
            refine w_addS (sz_le ?_) ?_
            · rw [len_list, len_list]; simp; omega
            tm_at "wp"
            refine w_slS (sz_le (by omega)) ?_
            rw [c2]
            refine w_addS (sz_le ?_) (hq _ _ (Same.refl _) ?_)
            · rw [len_list, len_list, app_list]; simp; omega
            · congr 1
              refine str_ext ?_
              rw [app_list, app_list]
              unfold wordC
              rw [show ((b + 5 * (0 + (i : Int))) % 26).toNat = (b.toNat + 5 * i) % 26 by omega]
              simp
          · intro acc2 H7 s7 h02 ha2 hl2 hf2
            refine fin _ D1 acc2 H6 H7 s06 h02 s7 ha2 hl2 hf2 (wordC_all (by omega) (fun c hc => f2 c (est ▸ List.mem_of_mem_take hc)) (fun c hc => f2 c (est ▸ List.mem_of_mem_drop hc)) ?_)
            rw [List.length_take, List.length_drop, ← len_list]; omega
theorem ok__law_often {P : Program} {w : World} {K : PySem.W.Frag} {mg : Str → Option Value} {base : Heap} (fr : Fre mg) (D : Dfd K mg "_law_often" s__law_often)
    (h__law_draw : Has P w K mg base CX0 1 "_law_draw" s__law_draw ["_law_pool_here", "_law_many"] (sp__law_draw K)) : Has P w K mg base CX0 2 "_law_often" s__law_often ["_law_pool_here"] (sp__law_often K) := by
  refine D.has sc__law_often (fun vs H Q E h => ?_) (fun cdv A outer s H vs Q E hr hg h => ?_)
  · obtain ⟨p, rfl, _⟩ := h; rfl
  · obtain ⟨p, rfl, hp, k⟩ := h
    have nd := sc__law_often.nd
    refine ⟨_, PSs.nox (pss_cons (ps_set (i := 1) nd rfl (Or.inl rfl) (pe_fn h__law_draw pb__law_draw (hr.mono (by decide)) hg rfl pass0 (pa_cons (pv 0) (pa_cons pe_int pa_nil))))
      (pss_one (ps_ret (pe_ix (k_ixL K) (pe_lst (pa_cons pe_int (pa_cons pe_int (pa_cons pe_int (pa_cons (pe_op op_add pe_int (pe_fn h__law_draw pb__law_draw (hr.mono (by decide)) hg rfl pass0 (pa_cons (pv 0) (pa_cons pe_int pa_nil)))) (pa_cons (pe_op op_add pe_int (pe_fn h__law_draw pb__law_draw (hr.mono (by decide)) hg rfl pass0 (pa_cons (pv 0) (pa_cons (pe_op op_pow pe_int pe_int) pa_nil)))) (pa_cons (pe_op op_pow pe_int pe_int) pa_nil))))))) (pv 1) (fun _ _ => rfl))))), ?_⟩
    try dsimp only [cxOf]
    tm_at "wp"
    refine ⟨p, 6, rfl, hp, by decide, by decide, fun way H1 w0 w1 s1 => ?_⟩
    tm_at "wp"
    refine ⟨p, 30, rfl, s1 _ _ hp, by decide, by decide, fun a H2 a0 a1 s2 => ?_⟩
    have s02 := s1.trans s2
    tm_at "wp"
    refine ⟨p, _, rfl, s02 _ _ hp, by decide, by decide, fun b H3 b0 b1 s3 => ?_⟩
    have s03 := s02.trans s3
    tm_at "wp"
    rename_i q hq
    have s04 : Same H (upd H3 q (.lst [.int 1, .int 2, .int 3, .int (1 + a), .int (1 + b), .int ((10 : Int) ^ (30 : Int).toNat)])) := same_step s03 hq
    have e30 : (10 : Int) ^ (30 : Int).toNat = 10 ^ 30 := by decide
    rw [e30] at b1 s04 ⊢
    obtain ⟨n, rfl⟩ := Int.eq_ofNat_of_zero_le w0
    have fin : ∀ r : Int, 1 ≤ r → r ≤ 10 ^ 30 → [V.int 1, .int 2, .int 3, .int (1 + a), .int (1 + b), .int (10 ^ 30)][n]? = some (.int r) → rIxL K (.ref q) (.int ((n : Nat) : Int)) (upd H3 q (.lst [.int 1, .int 2, .int 3, .int (1 + a), .int (1 + b), .int (10 ^ 30)])) Q := fun r r0 r1 e =>
      w_ixL (SqL.of upd_same) (atI_nat e) (k r _ r0 r1 s04)
    have hn : n < 6 := by omega
    match n, hn with
    | 0, _ => exact fin 1 (by decide) (by decide) rfl
    | 1, _ => exact fin 2 (by decide) (by decide) rfl
    | 2, _ => exact fin 3 (by decide) (by decide) rfl
    | 3, _ => exact fin (1 + a) (by omega) (by omega) rfl
    | 4, _ => exact fin (1 + b) (by omega) (by omega) rfl
    | 5, _ => exact fin (10 ^ 30) (by decide) (by decide) rfl
theorem ok__law_bag {P : Program} {w : World} {K : PySem.W.Frag} {mg : Str → Option Value} {base : Heap} (fr : Fre mg) (D : Dfd K mg "_law_bag" s__law_bag)
    (h__law_draw : Has P w K mg base CX0 1 "_law_draw" s__law_draw ["_law_pool_here", "_law_many"] (sp__law_draw K))
    (h__law_often : Has P w K mg base CX0 2 "_law_often" s__law_often ["_law_pool_here"] (sp__law_often K)) : Has P w K mg base CX0 3 "_law_bag" s__law_bag ["_law_pool_here", "_law_words_here", "_law_most"] (sp__law_bag K) := by
  refine D.has sc__law_bag (fun vs H Q E h => ?_) (fun cdv A outer s H vs Q E hr hg h => ?_)
  · obtain ⟨p, a, ws, m, n, rfl, _⟩ := h; rfl
  · obtain ⟨p, a, ws, m, n, rfl, hp, hs, hw, hn, m0, m1, k⟩ := h
    have nd := sc__law_bag.nd
    refine ⟨_, PSs.nox (pss_cons (ps_set (i := 3) nd rfl (Or.inl rfl) (pe_lst pa_nil))
      (pss_cons (ps_for PassesOwn.never rfl (k_iList K (pe_callB (k_sortedS K) rfl fr.sorted_ (by decide +kernel) (pa_cons (pv 1) pa_nil))) (pg_name (i := 4) nd rfl (Or.inl rfl))
        (pss_one (ps_if (pt_cmpR op_gt (pe_fn h__law_draw pb__law_draw (hr.mono (by decide)) hg rfl pass0 (pa_cons (pv 0) (pa_cons pe_int pa_nil))) pe_int (nomark _)) (pss_one (ps_expr (k_bm K PySem.F.plainAttrs_list PySem.F.slot_list_append PySem.F.type_list_append mt_append (pv 3) (pa_cons (pe_tup (pa_cons (pv 4) (pa_cons (pe_ifExp (pt_cmpR op_eq (pv 2) pe_int (nomark _)) (pe_fn h__law_often pb__law_often (hr.mono (by decide)) hg rfl pass0 (pa_cons (pv 0) pa_nil)) (pe_op op_add pe_int (pe_fn h__law_draw pb__law_draw (hr.mono (by decide)) hg rfl pass0 (pa_cons (pv 0) (pa_cons (pv 2) pa_nil))))) pa_nil))) pa_nil)))) pss_nil)))
      (pss_one (ps_ret (pe_callTy (k_tuple K) rfl fr.tuple_ (by decide +kernel) (pa_cons (pv 3) pa_nil)))))), ?_⟩
    try dsimp only [cxOf]
    tm_at "wp"
    rename_i l hl
    refine w_sortedS ((same_new hl).seq hs) (by rw [hw.len]; exact hn) ?_
    intro ys q hperm hsorted hq
    have hlq : l ≠ q := ne_fresh (upd_same) hq
    have hlen : ys.length = n := by rw [hperm.length_eq, hw.len]
    have asc := sorted_asc hsorted (hperm.nodup_iff.mpr hw.nd)
    have mem : ∀ w ∈ ys, w ∈ ws := fun w h => hperm.mem_iff.mp h
    have s1 : Same H (upd (upd H l (.lst [])) q (.lst (ys.map V.str))) := same_step (same_new hl) hq
    have hq0 : H q = none := free_upd hq
    refine w_onL (SqL.of upd_same) ?_
    refine for_go (walk_list (xs := ys.map V.str)) (fun i σ H' => ∃ (u : Option V) (ps : Bag) (xs : List V), σ = [some (.ref p), some (.ref a), some (.int m), some (.ref l), u] ∧ Same H H' ∧ H' q = some (.lst (ys.map V.str)) ∧ H' l = some (.lst xs) ∧ DpAll K H' xs (ps.map pairD) ∧ BagOk ps ∧ (∀ z ∈ ps, z.1 ∈ ys.take i) ∧ ps.length ≤ i ∧ (∀ z ∈ ps, z.2 ≤ 10 ^ 30) ∧ (0 < m → ∀ z ∈ ps, z.2 ≤ m))
      ⟨none, [], [], rfl, s1, upd_same, (upd_ne hlq).trans upd_same, .nil, ⟨.nil, nofun, nofun⟩, nofun, Nat.le_refl _, nofun, fun _ => nofun⟩ (fun i σ H' _ ⟨_, _, _, _, _, h, _⟩ => SqL.of h) ?_ ?_
    · rintro i v σ H1 H2 hi ⟨u, ps, xs, rfl, s2, hq2, hl2, hd, hb, hm, hlp, hc, hc2⟩ ⟨rfl, hy⟩
      rw [List.length_map] at hi
      have ey : v = .str ys[i] := by rw [List.getElem?_map, List.getElem?_eq_getElem hi] at hy; exact (Option.some.inj hy).symm
      subst ey
      have ht : ys.take (i + 1) = ys.take i ++ [ys[i]] := take_succ_snoc (List.getElem?_eq_getElem hi)
      have hxl : xs.length = ps.length := by rw [dps_len hd, List.length_map]
      have skip : ∀ (u' : Option V) H', Same H2 H' → ∃ (u : Option V) (ps : Bag) (xs : List V), [some (V.ref p), some (V.ref a), some (V.int m), some (V.ref l), u'] = [some (.ref p), some (.ref a), some (.int m), some (.ref l), u] ∧ Same H H' ∧ H' q = some (.lst (ys.map V.str)) ∧ H' l = some (.lst xs) ∧ DpAll K H' xs (ps.map pairD) ∧ BagOk ps ∧ (∀ z ∈ ps, z.1 ∈ ys.take (i + 1)) ∧ ps.length ≤ i + 1 ∧ (∀ z ∈ ps, z.2 ≤ 10 ^ 30) ∧ (0 < m → ∀ z ∈ ps, z.2 ≤ m) := fun u' H' s' =>
        ⟨u', ps, xs, rfl, s2.trans s', s' _ _ hq2, s' _ _ hl2, dps_same s' hd, hb, fun z hz => by rw [ht]; exact List.mem_append_left _ (hm z hz), Nat.le_succ_of_le hlp, hc, hc2⟩
      have app : ∀ (c : Int) (T : Addr) H', 1 ≤ c → c ≤ 10 ^ 30 → (0 < m → c ≤ m) → Same H2 H' → H' T = none → ∀ u' : Option V, rAppend (.ref l) [.ref T] (upd H' T (.tup [.str ys[i], .int c])) (fun _ H3 => ∃ (u : Option V) (ps : Bag) (xs : List V), [some (V.ref p), some (V.ref a), some (V.int m), some (V.ref l), u'] = [some (.ref p), some (.ref a), some (.int m), some (.ref l), u] ∧ Same H H3 ∧ H3 q = some (.lst (ys.map V.str)) ∧ H3 l = some (.lst xs) ∧ DpAll K H3 xs (ps.map pairD) ∧ BagOk ps ∧ (∀ z ∈ ps, z.1 ∈ ys.take (i + 1)) ∧ ps.length ≤ i + 1 ∧ (∀ z ∈ ps, z.2 ≤ 10 ^ 30) ∧ (0 < m → ∀ z ∈ ps, z.2 ≤ m)) := by
        intro c T H' c0 c1 c2 s' hT u'
        have hl3 : (upd H' T (.tup [.str ys[i], .int c])) l = some (.lst xs) := hp_new (s' _ _ hl2) hT
        refine w_append hl3 (sz_lt (by omega)) ⟨u', ps ++ [(ys[i], c)], xs ++ [.ref T], rfl, same_mut (same_step (s2.trans s') hT) hl, ?_, upd_same, ?_, ?_, ?_, ?_, ?_, ?_⟩
        · rw [upd_ne (ne_of hl3 (hp_new (s' _ _ hq2) hT) ?_).symm]
          · exact hp_new (s' _ _ hq2) hT
          · intro z
            injection z with z
            have := congrArg List.length z
            rw [List.length_map] at this
            omega
        · have st : SameT (upd H' T (.tup [.str ys[i], .int c])) (upd (upd H' T (.tup [.str ys[i], .int c])) l (.lst (xs ++ [.ref T]))) := SameT.lst hl3
          rw [List.map_append]
          refine dps_snoc ?_ ?_
          · exact dps_flat st (dps_same (s'.trans (same_new hT)) hd) (by have := flat_bag ps; simpa [bagD, flatD] using this)
          · exact pair_mk (st.sqt (SqT.of upd_same))
        · refine ⟨?_, ?_, ?_⟩
          · rw [List.pairwise_append]
            refine ⟨hb.asc, List.pairwise_singleton _ _, fun z hz z' hz' => ?_⟩
            rw [List.mem_singleton] at hz'
            subst hz'
            exact asc_take asc hi (hm z hz)
          · intro z hz
            rcases List.mem_append.mp hz with h | h
            · exact hb.nam z h
            · rw [List.mem_singleton] at h; subst h
              exact hw.nam _ (mem _ (List.getElem_mem hi))
          · intro z hz
            rcases List.mem_append.mp hz with h | h
            · exact hb.pos z h
            · rw [List.mem_singleton] at h; subst h; exact c0
        · intro z hz
          rw [ht]
          rcases List.mem_append.mp hz with h | h
          · exact List.mem_append_left _ (hm z h)
          · rw [List.mem_singleton] at h; subst h; exact List.mem_append_right _ (List.mem_singleton.mpr rfl)
        · simp; omega
        · intro z hz
          rcases List.mem_append.mp hz with h | h
          · exact hc z h
          · rw [List.mem_singleton] at h; subst h; exact c1
        · intro m2 z hz
          rcases List.mem_append.mp hz with h | h
          · exact hc2 m2 z h
          · rw [List.mem_singleton] at h; subst h; exact c2 m2
      tm_at "wp"
      refine ⟨p, 4, rfl, s2 _ _ hp, by decide, by decide, fun r H3 r0 r1 s3 => ?_⟩
      tm_at "wp"
      refine w_ited (fun h1 => ?_) (fun h1 => ?_)
      · tm_at "wp"
        refine w_tyL (s3 _ _ hl2) ?_
        tm_at "wp"
        refine w_ited (fun h2 => ?_) (fun h2 => ?_)
        · tm_at "wp"
          refine ⟨p, rfl, (s2.trans s3) _ _ hp, fun c H4 c0 c1 s4 => ?_⟩
          tm_at "wp"
          rename_i T hT
          exact app c T H4 c0 c1 (fun h => by omega) (s3.trans s4) hT _
        · tm_at "wp"
          refine ⟨p, m, rfl, (s2.trans s3) _ _ hp, by omega, by omega, fun c H4 c0 c1 s4 => ?_⟩
          tm_at "wp"
          rename_i T hT
          exact app (1 + c) T H4 (by omega) (by omega) (fun h => by omega) (s3.trans s4) hT _
      · tm_at "wp"
        exact skip _ _ s3
    · rintro σ H1 ⟨u, ps, xs, rfl, s2, hq2, hl2, hd, hb, hm, hlp, hc, hc2⟩
      rw [List.length_map] at hlp hm
      tm_at "wp"
      refine w_tupL (SqL.of hl2) ?_
      intro T hT
      refine k (.ref T) ps _ (same_step s2 hT) (.tup (SqT.of upd_same) (dps_same (same_new hT) hd)) hb (fun z hz => mem _ (List.mem_of_mem_take (hm z hz))) (by omega) hc hc2
theorem ok__law_kind {P : Program} {w : World} {K : PySem.W.Frag} {mg : Str → Option Value} {base : Heap} (fr : Fre mg) (xE : ExF K mg) (D : Dfd K mg "_law_kind" s__law_kind) : HasP P w K mg base 1 "_law_kind" s__law_kind ["_law_e"] (sp__law_kind K) := by
  refine D.hasP sc__law_kind (fun p vs H Q E h => ?_) (fun cdv A outer s H vs Q E p hr hg h => ?_)
  · obtain ⟨e, y, dd, rfl, _⟩ := h; rfl
  · obtain ⟨e, y, dd, rfl, he, hh, k⟩ := h
    have nd := sc__law_kind.nd
    have held : ∀ {X : Cx}, p ∈ X.pn → Held X p (He.ga K e.1) dd := fun hp => ⟨hp, hh.1, hh.2.1⟩
    refine ⟨_, (pss_cons (ps_set (i := 1) nd rfl (Or.inl rfl) (pe_lst (pa_cons (pe_callB (k_isP K (xE.ec e he) (held List.mem_cons_self)) rfl fr.isinstance_ (by decide +kernel) (pa_cons (pv 0) (pa_cons (pe_glob (v := .ref (He.ga K "InvalidCapacity")) rfl (xE.glo "InvalidCapacity" (by decide +kernel)) rfl) pa_nil))) (pa_cons (pe_callB (k_isP K (xE.ec e he) (held List.mem_cons_self)) rfl fr.isinstance_ (by decide +kernel) (pa_cons (pv 0) (pa_cons (pe_glob (v := .ref (He.ga K "InvalidName")) rfl (xE.glo "InvalidName" (by decide +kernel)) rfl) pa_nil))) (pa_cons (pe_callB (k_isP K (xE.ec e he) (held List.mem_cons_self)) rfl fr.isinstance_ (by decide +kernel) (pa_cons (pv 0) (pa_cons (pe_glob (v := .ref (He.ga K "InvalidTimes")) rfl (xE.glo "InvalidTimes" (by decide +kernel)) rfl) pa_nil))) pa_nil)))))
      (pss_cons (ps_set (i := 1) nd rfl (Or.inl rfl) (pe_op op_cat (pv 1) (pe_lst (pa_cons (pe_callB (k_isP K (xE.ec e he) (held List.mem_cons_self)) rfl fr.isinstance_ (by decide +kernel) (pa_cons (pv 0) (pa_cons (pe_glob (v := .ref (He.ga K "InvalidCounts")) rfl (xE.glo "InvalidCounts" (by decide +kernel)) rfl) pa_nil))) (pa_cons (pe_callB (k_isP K (xE.ec e he) (held List.mem_cons_self)) rfl fr.isinstance_ (by decide +kernel) (pa_cons (pv 0) (pa_cons (pe_glob (v := .ref (He.ga K "InvalidSummary")) rfl (xE.glo "InvalidSummary" (by decide +kernel)) rfl) pa_nil))) pa_nil)))))
      (pss_cons (ps_set (i := 1) nd rfl (Or.inl rfl) (pe_op op_cat (pv 1) (pe_lst (pa_cons (pe_callB (k_isP K (xE.ec e he) (held List.mem_cons_self)) rfl fr.isinstance_ (by decide +kernel) (pa_cons (pv 0) (pa_cons (pe_glob (v := .ref (He.ga K "InvalidOrder")) rfl (xE.glo "InvalidOrder" (by decide +kernel)) rfl) pa_nil))) pa_nil))))
      (pss_cons (ps_set (i := 1) nd rfl (Or.inl rfl) (pe_op op_cat (pv 1) (pe_lst (pa_cons (pe_callB (k_isP K (xE.ec e he) (held List.mem_cons_self)) rfl fr.isinstance_ (by decide +kernel) (pa_cons (pv 0) (pa_cons (pe_glob (v := .ref (He.ga K "InvalidPlan")) rfl (xE.glo "InvalidPlan" (by decide +kernel)) rfl) pa_nil))) (pa_cons (pe_callB (k_isP K (xE.ec e he) (held List.mem_cons_self)) rfl fr.isinstance_ (by decide +kernel) (pa_cons (pv 0) (pa_cons (pe_glob (v := .ref (He.ga K "InvalidText")) rfl (xE.glo "InvalidText" (by decide +kernel)) rfl) pa_nil))) (pa_cons (pe_callB (k_isP K (xE.ec e he) (held List.mem_cons_self)) rfl fr.isinstance_ (by decide +kernel) (pa_cons (pv 0) (pa_cons (pe_glob (v := .ref (He.ga K "InvalidSize")) rfl (xE.glo "InvalidSize" (by decide +kernel)) rfl) pa_nil))) pa_nil))))))
      (pss_cons (ps_set (i := 1) nd rfl (Or.inl rfl) (pe_op op_cat (pv 1) (pe_lst (pa_cons (pe_callB (k_isP K (xE.ec e he) (held List.mem_cons_self)) rfl fr.isinstance_ (by decide +kernel) (pa_cons (pv 0) (pa_cons (pe_glob (v := .ref (He.ga K "InvalidNumber")) rfl (xE.glo "InvalidNumber" (by decide +kernel)) rfl) pa_nil))) (pa_cons (pe_callB (k_isP K (xE.ec e he) (held List.mem_cons_self)) rfl fr.isinstance_ (by decide +kernel) (pa_cons (pv 0) (pa_cons (pe_glob (v := .ref (He.ga K "InvalidSlots")) rfl (xE.glo "InvalidSlots" (by decide +kernel)) rfl) pa_nil))) (pa_cons (pe_callB (k_isP K (xE.ec e he) (held List.mem_cons_self)) rfl fr.isinstance_ (by decide +kernel) (pa_cons (pv 0) (pa_cons (pe_glob (v := .ref (He.ga K "InvalidIndex")) rfl (xE.glo "InvalidIndex" (by decide +kernel)) rfl) pa_nil))) pa_nil))))))
      (pss_cons (ps_set (i := 1) nd rfl (Or.inl rfl) (pe_op op_cat (pv 1) (pe_lst (pa_cons (pe_callB (k_isP K (xE.ec e he) (held List.mem_cons_self)) rfl fr.isinstance_ (by decide +kernel) (pa_cons (pv 0) (pa_cons (pe_glob (v := .ref (He.ga K "InvalidAction")) rfl (xE.glo "InvalidAction" (by decide +kernel)) rfl) pa_nil))) (pa_cons (pe_callB (k_isP K (xE.ec e he) (held List.mem_cons_self)) rfl fr.isinstance_ (by decide +kernel) (pa_cons (pv 0) (pa_cons (pe_glob (v := .ref (He.ga K "InvalidLine")) rfl (xE.glo "InvalidLine" (by decide +kernel)) rfl) pa_nil))) (pa_cons (pe_callB (k_isP K (xE.ec e he) (held List.mem_cons_self)) rfl fr.isinstance_ (by decide +kernel) (pa_cons (pv 0) (pa_cons (pe_glob (v := .ref (He.ga K "NotASummary")) rfl (xE.glo "NotASummary" (by decide +kernel)) rfl) pa_nil))) pa_nil))))))
      (pss_cons (ps_set (i := 1) nd rfl (Or.inl rfl) (pe_op op_cat (pv 1) (pe_lst (pa_cons (pe_callB (k_isP K (xE.ec e he) (held List.mem_cons_self)) rfl fr.isinstance_ (by decide +kernel) (pa_cons (pv 0) (pa_cons (pe_glob (v := .ref (He.ga K "CapacitiesDiffer")) rfl (xE.glo "CapacitiesDiffer" (by decide +kernel)) rfl) pa_nil))) (pa_cons (pe_callB (k_isP K (xE.ec e he) (held List.mem_cons_self)) rfl fr.isinstance_ (by decide +kernel) (pa_cons (pv 0) (pa_cons (pe_glob (v := .ref (He.ga K "Busy")) rfl (xE.glo "Busy" (by decide +kernel)) rfl) pa_nil))) (pa_cons (pe_callB (k_isP K (xE.ec e he) (held List.mem_cons_self)) rfl fr.isinstance_ (by decide +kernel) (pa_cons (pv 0) (pa_cons (pe_glob (v := .ref (He.ga K "NothingToUndo")) rfl (xE.glo "NothingToUndo" (by decide +kernel)) rfl) pa_nil))) pa_nil))))))
      (pss_cons (ps_set (i := 1) nd rfl (Or.inl rfl) (pe_op op_cat (pv 1) (pe_lst (pa_cons (pe_callB (k_isP K (xE.ec e he) (held List.mem_cons_self)) rfl fr.isinstance_ (by decide +kernel) (pa_cons (pv 0) (pa_cons (pe_glob (v := .ref (He.ga K "TooManyNames")) rfl (xE.glo "TooManyNames" (by decide +kernel)) rfl) pa_nil))) (pa_cons (pe_callB (k_isP K (xE.ec e he) (held List.mem_cons_self)) rfl fr.isinstance_ (by decide +kernel) (pa_cons (pv 0) (pa_cons (pe_glob (v := .ref (He.ga K "TooManyActions")) rfl (xE.glo "TooManyActions" (by decide +kernel)) rfl) pa_nil))) pa_nil)))))
      (pss_cons (ps_set (i := 2) nd rfl (Or.inl rfl) (pe_lst (pa_cons (pe_callB (k_isP K (xE.ec e he) (held List.mem_cons_self)) rfl fr.isinstance_ (by decide +kernel) (pa_cons (pv 0) (pa_cons (pe_glob (v := .ref (He.ga K "TallyError")) rfl (xE.glo "TallyError" (by decide +kernel)) rfl) pa_nil))) (pa_cons (pe_callB (k_isP K (xE.ec e he) (held List.mem_cons_self)) rfl fr.isinstance_ (by decide +kernel) (pa_cons (pv 0) (pa_cons (pe_glob (v := .ref (He.ga K "StateError")) rfl (xE.glo "StateError" (by decide +kernel)) rfl) pa_nil))) (pa_cons (pe_callB (k_isP K (xE.ec e he) (held List.mem_cons_self)) rfl fr.isinstance_ (by decide +kernel) (pa_cons (pv 0) (pa_cons (pe_glob (v := .ref (He.ga K "SizeError")) rfl (xE.glo "SizeError" (by decide +kernel)) rfl) pa_nil))) pa_nil)))))
      (pss_cons (ps_set (i := 3) nd rfl (Or.inl rfl) (pe_lst (pa_cons (pe_callB (k_isP K (xE.ec e he) (held List.mem_cons_self)) rfl fr.isinstance_ (by decide +kernel) (pa_cons (pv 0) (pa_cons (pe_bltn (v := .ty "ValueError") rfl xE.free.1 boot_ValueError rfl) pa_nil))) (pa_cons (pe_callB (k_isP K (xE.ec e he) (held List.mem_cons_self)) rfl fr.isinstance_ (by decide +kernel) (pa_cons (pv 0) (pa_cons (pe_bltn (v := .ty "LookupError") rfl xE.free.2.1 boot_LookupError rfl) pa_nil))) (pa_cons (pe_callB (k_isP K (xE.ec e he) (held List.mem_cons_self)) rfl fr.isinstance_ (by decide +kernel) (pa_cons (pv 0) (pa_cons (pe_bltn (v := .ty "ArithmeticError") rfl xE.free.2.2 boot_ArithmeticError rfl) pa_nil))) pa_nil)))))
      (pss_cons (ps_if (pt_cmpR op_ne (k_bm K PySem.F.plainAttrs_list PySem.F.slot_list_count PySem.F.type_list_count (k_countF K) (pv 1) (pa_cons pe_bl pa_nil)) pe_int (nomark _)) (pss_one (ps_ret pe_str)) pss_nil)
      (pss_cons (ps_set (i := 4) nd rfl (Or.inl rfl) (k_bm K PySem.F.plainAttrs_list PySem.F.slot_list_index PySem.F.type_list_index (k_index K) (pv 1) (pa_cons pe_bl pa_nil)))
      (pss_cons (ps_if (PW.pt (pw_or (pt_cmpR (k_neL K (u66H hr)) (pv 2) (pe_lst (pa_cons (pe_cmpR op_lt (pv 4) pe_int (nomark _)) (pa_cons (pe_chain op_lt op_lt pe_int (pv 4) pe_int) (pa_cons (pe_cmpR op_gt (pv 4) pe_int (nomark _)) pa_nil)))) (nomark _)) (pw_or1 (pt_cmpR (k_neL K (u66H hr)) (pv 3) (pv 2) (nomark _))))) (pss_one (ps_ret pe_str)) pss_nil)
      (pss_cons (ps_set (i := 5) nd rfl (Or.inl rfl) pe_str)
      (pss_cons (ps_set (i := 5) nd rfl (Or.inl rfl) (pe_op o_addS (pv 5) pe_str))
      (pss_one (ps_ret (pe_ix (k_ixL K) (pe_split (pv 5) pe_str) (pv 4) (fun _ _ => rfl))))))))))))))))))), ?_⟩
    try dsimp only [L2H.cxH, cxOf]
    tm_at "wk"
    rename_i q0 G0 s0 hq0
    replace hh := held_same s0 hh
    tm_at "wk"
    rename_i q1 G1 s1 hq1
    refine w_catG (by first | exact s1 _ _ hq0) (by assumption) (sz_le (by simp)) fun r1 F1 u1 hr1 => ?_
    replace hh := held_same (s1.trans u1) hh
    tm_at "wk"
    rename_i q2 G2 s2 hq2
    refine w_catG (by first | exact s2 _ _ hr1) (by assumption) (sz_le (by simp)) fun r2 F2 u2 hr2 => ?_
    replace hh := held_same (s2.trans u2) hh
    tm_at "wk"
    rename_i q3 G3 s3 hq3
    refine w_catG (by first | exact s3 _ _ hr2) (by assumption) (sz_le (by simp)) fun r3 F3 u3 hr3 => ?_
    replace hh := held_same (s3.trans u3) hh
    tm_at "wk"
    rename_i q4 G4 s4 hq4
    refine w_catG (by first | exact s4 _ _ hr3) (by assumption) (sz_le (by simp)) fun r4 F4 u4 hr4 => ?_
    replace hh := held_same (s4.trans u4) hh
    tm_at "wk"
    rename_i q5 G5 s5 hq5
    refine w_catG (by first | exact s5 _ _ hr4) (by assumption) (sz_le (by simp)) fun r5 F5 u5 hr5 => ?_
    replace hh := held_same (s5.trans u5) hh
    tm_at "wk"
    rename_i q6 G6 s6 hq6
    refine w_catG (by first | exact s6 _ _ hr5) (by assumption) (sz_le (by simp)) fun r6 F6 u6 hr6 => ?_
    replace hh := held_same (s6.trans u6) hh
    tm_at "wk"
    rename_i q7 G7 s7 hq7
    refine w_catG (by first | exact s7 _ _ hr6) (by assumption) (sz_le (by simp)) fun r7 F7 u7 hr7 => ?_
    replace hh := held_same (s7.trans u7) hh
    tm_at "wk"
    rename_i qb Gb sb hqb
    replace hh := held_same sb hh
    refine w_isPb xE he hh (xE.kb e he).1 ?_
    tm_at "wk"
    refine w_isPb xE he hh (xE.kb e he).2.1 ?_
    tm_at "wk"
    refine w_isPb xE he hh (xE.kb e he).2.2 ?_
    tm_at "wk"
    rename_i qo Go so hqo
    have hK : Go r7 = some (.lst (exBls e)) := (sb.trans so) _ _ hr7
    have hB : Go qb = some (.lst [.bl (exIs e "TallyError"), .bl (exIs e "StateError"), .bl (exIs e "SizeError")]) := so _ _ hqb
    obtain ⟨b1, b2, b3⟩ := ex_bases e he
    obtain ⟨hat, hhit⟩ := ex_hit e he
    have hmiss := ex_miss e he
    refine w_tyL hK ?_
    tm_at "wp"
    refine ⟨r7, exBls e, .bl true, rfl, rfl, SqL.of hK, rfl, ex_flat e, ?_⟩
    rw [ex_cnt e he]
    tm_at "wp"
    refine w_iten (fun z => absurd rfl z) (fun _ => ?_)
    tm_at "wp"
    refine w_tyL hK ?_
    tm_at "wp"
    refine ⟨r7, exBls e, .bl true, exAt e, .bl true, rfl, rfl, SqL.of hK, rfl, ex_flat e, ?_, rfl, ?_, ?_⟩
    · show (exLeaf.map fun C => V.bl (exIs e C))[exAt e]? = some (.bl true)
      rw [show (exLeaf.map fun C => V.bl (exIs e C)) = (exLeaf.map (exIs e)).map V.bl by rw [List.map_map]; rfl, List.getElem?_map, hhit]
      rfl
    · intro m z hm hz
      have hz : (exLeaf.map fun C => V.bl (exIs e C))[m]? = some z := hz
      rw [show (exLeaf.map fun C => V.bl (exIs e C)) = (exLeaf.map (exIs e)).map V.bl by rw [List.map_map]; rfl, List.getElem?_map] at hz
      cases hb : (exLeaf.map (exIs e))[m]? with
      | none => rw [hb] at hz; cases hz
      | some b =>
        rw [hb] at hz
        cases hz
        have hin : b ∈ (exLeaf.map (exIs e)).take (exAt e) := List.mem_of_getElem? (by rw [List.getElem?_take_of_lt hm]; exact hb)
        have := List.all_eq_true.mp hmiss b hin
        cases b
        · rfl
        · cases this
    tm_at "wp"
    refine w_ited (fun z => ?_) (fun z => ?_)
    · tm_at "wk"
      rename_i qn Gn sn hqn
      refine w_neF (SqL.of (sn _ _ hB)) (SqL.of hqn) (by rw [b1, b2, b3, decide_eq_true z, Bool.true_and]) rfl ?_
      tm_at "wk"
      refine w_neF (SqL.of (sn _ _ hqo)) (SqL.of (sn _ _ hB)) rfl rfl ?_
      tm_at "wk"
      refine w_addS (by decide +kernel) ?_
      rw [show (Str.ofString "capacity name times counts summary order plan text size number slots index action line" ++ Str.ofString " notsummary differ busy undo names actions" : Str) = exWords by decide +kernel]
      tm_at "wk"
      refine ⟨_, _, rfl, rfl, by decide +kernel, by decide +kernel, ?_⟩
      intro qw hqw
      tm_at "wp"
      refine w_ixL (v := .str e.2.2) (SqL.of upd_same) (atI_nat (by rw [List.getElem?_map, ex_word e he]; rfl)) ?_
      exact k _ (by tm_at "same")
    · tm_at "wk"
      rename_i qn Gn sn hqn
      refine w_neF (SqL.of (sn _ _ hB)) (SqL.of hqn) (by rw [b1, b2, b3, decide_eq_false z, Bool.false_and]) rfl ?_
      tm_at "wk"
      refine w_neF (SqL.of (sn _ _ hqo)) (SqL.of (sn _ _ hB)) rfl rfl ?_
      tm_at "wk"
      refine w_addS (by decide +kernel) ?_
      rw [show (Str.ofString "capacity name times counts summary order plan text size number slots index action line" ++ Str.ofString " notsummary differ busy undo names actions" : Str) = exWords by decide +kernel]
      tm_at "wk"
      refine ⟨_, _, rfl, rfl, by decide +kernel, by decide +kernel, ?_⟩
      intro qw hqw
      tm_at "wp"
      refine w_ixL (v := .str e.2.2) (SqL.of upd_same) (atI_nat (by rw [List.getElem?_map, ex_word e he]; rfl)) ?_
      exact k _ (by tm_at "same")
theorem ok__law_fields {P : Program} {w : World} {K : PySem.W.Frag} {mg : Str → Option Value} {base : Heap} (fr : Fre mg) (xE : ExF K mg) (D : Dfd K mg "_law_fields" s__law_fields)
    (h__law_other_fields : HasP P w K mg base 1 "_law_other_fields" s__law_other_fields ["_law_e"] (sp__law_other_fields K)) : HasP P w K mg base 2 "_law_fields" s__law_fields ["_law_e"] (sp__law_fields K) := by
  refine D.hasP sc__law_fields (fun p vs H Q E h => ?_) (fun cdv A outer s H vs Q E p hr hg h => ?_)
  · obtain ⟨e, y, dd, rfl, _⟩ := h; rfl
  · obtain ⟨e, y, dd, rfl, he, hh, k⟩ := h
    have nd := sc__law_fields.nd
    have held : ∀ {X : Cx}, p ∈ X.pn → Held X p (He.ga K e.1) dd := fun hp => ⟨hp, hh.1, hh.2.1⟩
    refine ⟨_, (pss_cons (ps_if (pt_val (pe_callB (k_isPT K (xE.ec e he) (held List.mem_cons_self)) rfl fr.isinstance_ (by decide +kernel) (pa_cons (pv 0) (pa_cons (pe_tup (pa_cons (pe_glob (v := .ref (He.ga K "InvalidCounts")) rfl (xE.glo "InvalidCounts" (by decide +kernel)) rfl) (pa_cons (pe_glob (v := .ref (He.ga K "InvalidSummary")) rfl (xE.glo "InvalidSummary" (by decide +kernel)) rfl) (pa_cons (pe_glob (v := .ref (He.ga K "InvalidOrder")) rfl (xE.glo "InvalidOrder" (by decide +kernel)) rfl) (pa_cons (pe_glob (v := .ref (He.ga K "InvalidPlan")) rfl (xE.glo "InvalidPlan" (by decide +kernel)) rfl) pa_nil))))) pa_nil)))) (pss_one (ps_ret (pe_lst (pa_cons (k_xp K (TP.ExcC.xfo (xE.ec e he)) (xE.na e he "index" (by decide +kernel)) (held List.mem_cons_self) (pv 0)) pa_nil)))) pss_nil)
      (pss_cons (ps_if (pt_val (pe_callB (k_isPT K (xE.ec e he) (held List.mem_cons_self)) rfl fr.isinstance_ (by decide +kernel) (pa_cons (pv 0) (pa_cons (pe_tup (pa_cons (pe_glob (v := .ref (He.ga K "InvalidIndex")) rfl (xE.glo "InvalidIndex" (by decide +kernel)) rfl) (pa_cons (pe_glob (v := .ref (He.ga K "InvalidAction")) rfl (xE.glo "InvalidAction" (by decide +kernel)) rfl) pa_nil))) pa_nil)))) (pss_one (ps_ret (pe_lst (pa_cons (k_xp K (TP.ExcC.xfo (xE.ec e he)) (xE.na e he "index" (by decide +kernel)) (held List.mem_cons_self) (pv 0)) pa_nil)))) pss_nil)
      (pss_cons (ps_if (pt_val (pe_callB (k_isP K (xE.ec e he) (held List.mem_cons_self)) rfl fr.isinstance_ (by decide +kernel) (pa_cons (pv 0) (pa_cons (pe_glob (v := .ref (He.ga K "NotASummary")) rfl (xE.glo "NotASummary" (by decide +kernel)) rfl) pa_nil)))) (pss_one (ps_ret (pe_lst (pa_cons (k_xp K (TP.ExcC.xfo (xE.ec e he)) (xE.na e he "value" (by decide +kernel)) (held List.mem_cons_self) (pv 0)) pa_nil)))) pss_nil)
      (pss_cons (ps_if (pt_val (pe_callB (k_isPT K (xE.ec e he) (held List.mem_cons_self)) rfl fr.isinstance_ (by decide +kernel) (pa_cons (pv 0) (pa_cons (pe_tup (pa_cons (pe_glob (v := .ref (He.ga K "InvalidCapacity")) rfl (xE.glo "InvalidCapacity" (by decide +kernel)) rfl) (pa_cons (pe_glob (v := .ref (He.ga K "CapacitiesDiffer")) rfl (xE.glo "CapacitiesDiffer" (by decide +kernel)) rfl) pa_nil))) pa_nil)))) (pss_one (ps_ret (pe_lst (pa_cons (k_xp K (TP.ExcC.xfo (xE.ec e he)) (xE.na e he "capacity" (by decide +kernel)) (held List.mem_cons_self) (pv 0)) pa_nil)))) pss_nil)
      (pss_cons (ps_if (pt_val (pe_callB (k_isPT K (xE.ec e he) (held List.mem_cons_self)) rfl fr.isinstance_ (by decide +kernel) (pa_cons (pv 0) (pa_cons (pe_tup (pa_cons (pe_glob (v := .ref (He.ga K "TooManyNames")) rfl (xE.glo "TooManyNames" (by decide +kernel)) rfl) (pa_cons (pe_glob (v := .ref (He.ga K "TooManyActions")) rfl (xE.glo "TooManyActions" (by decide +kernel)) rfl) pa_nil))) pa_nil)))) (pss_one (ps_ret (pe_lst (pa_cons (k_xp K (TP.ExcC.xfo (xE.ec e he)) (xE.na e he "found" (by decide +kernel)) (held List.mem_cons_self) (pv 0)) pa_nil)))) pss_nil)
      (pss_one (ps_ret (pe_fnP (p := p) h__law_other_fields pb__law_other_fields List.mem_cons_self (L2H.RoomH.mono hr (by decide)) hg rfl (pa_cons (pv 0) pa_nil))))))))), ?_⟩
    try dsimp only [L2H.cxH, cxOf]
    have fin : ∀ (f : Str), e.2.1 = f → ([(e.2.1, y)] : List (Str × V)).lookup f = some y := fun f h => by rw [h]; exact lk_self _ _
    tm_at "wp"
    rename_i t1 ht1
    have hh1 := held_same (same_new (u := .tup [.ref (He.ga K "InvalidCounts"), .ref (He.ga K "InvalidSummary"), .ref (He.ga K "InvalidOrder"), .ref (He.ga K "InvalidPlan")]) ht1) hh
    refine w_isPT xE he hh1 (cs := ["InvalidCounts", "InvalidSummary", "InvalidOrder", "InvalidPlan"]) upd_same (by decide +kernel) ?_
    tm_at "wp"
    refine w_iteb (fun hb => ?_) (fun h1 => ?_)
    · tm_at "wp"
      refine w_xp (w_var (by with_unfolding_all exact rfl) ⟨rfl, _, y, hh1.2.2, fin "index" (ex_first e he hb), ?_⟩)
      tm_at "wp"
      rename_i l hl
      exact k l _ (by tm_at "same") upd_same
    tm_at "wp"
    rename_i t2 ht2
    have hh2 := held_same (same_new (u := .tup [.ref (He.ga K "InvalidIndex"), .ref (He.ga K "InvalidAction")]) ht2) hh1
    refine w_isPT xE he hh2 (cs := ["InvalidIndex", "InvalidAction"]) upd_same (by decide +kernel) ?_
    tm_at "wp"
    refine w_iteb (fun hb => ?_) (fun h2 => ?_)
    · tm_at "wp"
      refine w_xp (w_var (by with_unfolding_all exact rfl) ⟨rfl, _, y, hh2.2.2, fin "index" (ex_second e he hb), ?_⟩)
      tm_at "wp"
      rename_i l hl
      exact k l _ (by tm_at "same") upd_same
    tm_at "wp"
    refine w_isP xE he hh2 (by decide +kernel) ?_
    tm_at "wp"
    refine w_iteb (fun hb => ?_) (fun h3 => ?_)
    · tm_at "wp"
      refine w_xp (w_var (by with_unfolding_all exact rfl) ⟨rfl, _, y, hh2.2.2, fin "value" (ex_fld e he ("NotASummary", "value", "notsummary") (by decide +kernel) hb), ?_⟩)
      tm_at "wp"
      rename_i l hl
      exact k l _ (by tm_at "same") upd_same
    tm_at "wp"
    rename_i t4 ht4
    have hh4 := held_same (same_new (u := .tup [.ref (He.ga K "InvalidCapacity"), .ref (He.ga K "CapacitiesDiffer")]) ht4) hh2
    refine w_isPT xE he hh4 (cs := ["InvalidCapacity", "CapacitiesDiffer"]) upd_same (by decide +kernel) ?_
    tm_at "wp"
    refine w_iteb (fun hb => ?_) (fun h4 => ?_)
    · tm_at "wp"
      refine w_xp (w_var (by with_unfolding_all exact rfl) ⟨rfl, _, y, hh4.2.2, fin "capacity" (ex_cap e he hb), ?_⟩)
      tm_at "wp"
      rename_i l hl
      exact k l _ (by tm_at "same") upd_same
    tm_at "wp"
    rename_i t5 ht5
    have hh5 := held_same (same_new (u := .tup [.ref (He.ga K "TooManyNames"), .ref (He.ga K "TooManyActions")]) ht5) hh4
    refine w_isPT xE he hh5 (cs := ["TooManyNames", "TooManyActions"]) upd_same (by decide +kernel) ?_
    tm_at "wp"
    refine w_iteb (fun hb => ?_) (fun h5 => ?_)
    · tm_at "wp"
      refine w_xp (w_var (by with_unfolding_all exact rfl) ⟨rfl, _, y, hh5.2.2, fin "found" (ex_many e he hb), ?_⟩)
      tm_at "wp"
      rename_i l hl
      exact k l _ (by tm_at "same") upd_same
    tm_at "wp"
    refine ⟨e, y, dd, rfl, he, hh5, ex_rest e he h1 h2 h3 h4 h5, fun l H' s hl => ?_⟩
    exact k l _ (by tm_at "same") hl
theorem ok__law_other_fields {P : Program} {w : World} {K : PySem.W.Frag} {mg : Str → Option Value} {base : Heap} (fr : Fre mg) (xE : ExF K mg) (D : Dfd K mg "_law_other_fields" s__law_other_fields) : HasP P w K mg base 1 "_law_other_fields" s__law_other_fields ["_law_e"] (sp__law_other_fields K) := by
  refine D.hasP sc__law_other_fields (fun p vs H Q E h => ?_) (fun cdv A outer s H vs Q E p hr hg h => ?_)
  · obtain ⟨e, y, dd, rfl, _⟩ := h; rfl
  · obtain ⟨e, y, dd, rfl, he, hh, k⟩ := h
    have nd := sc__law_other_fields.nd
    have held : ∀ {X : Cx}, p ∈ X.pn → Held X p (He.ga K e.1) dd := fun hp => ⟨hp, hh.1, hh.2.1⟩
    refine ⟨_, (pss_cons (ps_if (pt_val (pe_callB (k_isP K (xE.ec e he) (held List.mem_cons_self)) rfl fr.isinstance_ (by decide +kernel) (pa_cons (pv 0) (pa_cons (pe_glob (v := .ref (He.ga K "InvalidName")) rfl (xE.glo "InvalidName" (by decide +kernel)) rfl) pa_nil)))) (pss_one (ps_ret (pe_lst (pa_cons (k_xp K (TP.ExcC.xfo (xE.ec e he)) (xE.na e he "name" (by decide +kernel)) (held List.mem_cons_self) (pv 0)) pa_nil)))) pss_nil)
      (pss_cons (ps_if (pt_val (pe_callB (k_isP K (xE.ec e he) (held List.mem_cons_self)) rfl fr.isinstance_ (by decide +kernel) (pa_cons (pv 0) (pa_cons (pe_glob (v := .ref (He.ga K "InvalidTimes")) rfl (xE.glo "InvalidTimes" (by decide +kernel)) rfl) pa_nil)))) (pss_one (ps_ret (pe_lst (pa_cons (k_xp K (TP.ExcC.xfo (xE.ec e he)) (xE.na e he "times" (by decide +kernel)) (held List.mem_cons_self) (pv 0)) pa_nil)))) pss_nil)
      (pss_cons (ps_if (pt_val (pe_callB (k_isP K (xE.ec e he) (held List.mem_cons_self)) rfl fr.isinstance_ (by decide +kernel) (pa_cons (pv 0) (pa_cons (pe_glob (v := .ref (He.ga K "InvalidText")) rfl (xE.glo "InvalidText" (by decide +kernel)) rfl) pa_nil)))) (pss_one (ps_ret (pe_lst (pa_cons (k_xp K (TP.ExcC.xfo (xE.ec e he)) (xE.na e he "text" (by decide +kernel)) (held List.mem_cons_self) (pv 0)) pa_nil)))) pss_nil)
      (pss_cons (ps_if (pt_val (pe_callB (k_isP K (xE.ec e he) (held List.mem_cons_self)) rfl fr.isinstance_ (by decide +kernel) (pa_cons (pv 0) (pa_cons (pe_glob (v := .ref (He.ga K "InvalidNumber")) rfl (xE.glo "InvalidNumber" (by decide +kernel)) rfl) pa_nil)))) (pss_one (ps_ret (pe_lst (pa_cons (k_xp K (TP.ExcC.xfo (xE.ec e he)) (xE.na e he "number" (by decide +kernel)) (held List.mem_cons_self) (pv 0)) pa_nil)))) pss_nil)
      (pss_cons (ps_if (pt_val (pe_callB (k_isP K (xE.ec e he) (held List.mem_cons_self)) rfl fr.isinstance_ (by decide +kernel) (pa_cons (pv 0) (pa_cons (pe_glob (v := .ref (He.ga K "InvalidSlots")) rfl (xE.glo "InvalidSlots" (by decide +kernel)) rfl) pa_nil)))) (pss_one (ps_ret (pe_lst (pa_cons (k_xp K (TP.ExcC.xfo (xE.ec e he)) (xE.na e he "slots" (by decide +kernel)) (held List.mem_cons_self) (pv 0)) pa_nil)))) pss_nil)
      (pss_cons (ps_if (pt_val (pe_callB (k_isP K (xE.ec e he) (held List.mem_cons_self)) rfl fr.isinstance_ (by decide +kernel) (pa_cons (pv 0) (pa_cons (pe_glob (v := .ref (He.ga K "InvalidSize")) rfl (xE.glo "InvalidSize" (by decide +kernel)) rfl) pa_nil)))) (pss_one (ps_ret (pe_lst (pa_cons (k_xp K (TP.ExcC.xfo (xE.ec e he)) (xE.na e he "size" (by decide +kernel)) (held List.mem_cons_self) (pv 0)) pa_nil)))) pss_nil)
      (pss_one (ps_ret (pe_ifExp (pt_val (pe_callB (k_isP K (xE.ec e he) (held List.mem_cons_self)) rfl fr.isinstance_ (by decide +kernel) (pa_cons (pv 0) (pa_cons (pe_glob (v := .ref (He.ga K "InvalidLine")) rfl (xE.glo "InvalidLine" (by decide +kernel)) rfl) pa_nil)))) (pe_lst (pa_cons (k_xp K (TP.ExcC.xfo (xE.ec e he)) (xE.na e he "line" (by decide +kernel)) (held List.mem_cons_self) (pv 0)) pa_nil)) (pe_lst pa_nil)))))))))), ?_⟩
    try dsimp only [L2H.cxH, cxOf]
    obtain ⟨ho, k⟩ := k
    have fin : ∀ (c : ExE), c ∈ exTab → exIs e c.1 = true → ([(e.2.1, y)] : List (Str × V)).lookup c.2.1 = some y := fun c hc hb => by rw [ex_fld e he c hc hb]; exact lk_self _ _
    tm_at "wp"
    refine w_isP xE he hh (by decide +kernel) ?_
    tm_at "wp"
    refine w_iteb (fun hb => ?_) (fun h1 => ?_)
    · tm_at "wp"
      refine w_xp (w_var (by with_unfolding_all exact rfl) ⟨rfl, _, y, hh.2.2, fin ("InvalidName", "name", "name") (by decide +kernel) hb, ?_⟩)
      tm_at "wp"
      rename_i l hl
      exact k l _ (same_new hl) upd_same
    tm_at "wp"
    refine w_isP xE he hh (by decide +kernel) ?_
    tm_at "wp"
    refine w_iteb (fun hb => ?_) (fun h2 => ?_)
    · tm_at "wp"
      refine w_xp (w_var (by with_unfolding_all exact rfl) ⟨rfl, _, y, hh.2.2, fin ("InvalidTimes", "times", "times") (by decide +kernel) hb, ?_⟩)
      tm_at "wp"
      rename_i l hl
      exact k l _ (same_new hl) upd_same
    tm_at "wp"
    refine w_isP xE he hh (by decide +kernel) ?_
    tm_at "wp"
    refine w_iteb (fun hb => ?_) (fun h3 => ?_)
    · tm_at "wp"
      refine w_xp (w_var (by with_unfolding_all exact rfl) ⟨rfl, _, y, hh.2.2, fin ("InvalidText", "text", "text") (by decide +kernel) hb, ?_⟩)
      tm_at "wp"
      rename_i l hl
      exact k l _ (same_new hl) upd_same
    tm_at "wp"
    refine w_isP xE he hh (by decide +kernel) ?_
    tm_at "wp"
    refine w_iteb (fun hb => ?_) (fun h4 => ?_)
    · tm_at "wp"
      refine w_xp (w_var (by with_unfolding_all exact rfl) ⟨rfl, _, y, hh.2.2, fin ("InvalidNumber", "number", "number") (by decide +kernel) hb, ?_⟩)
      tm_at "wp"
      rename_i l hl
      exact k l _ (same_new hl) upd_same
    tm_at "wp"
    refine w_isP xE he hh (by decide +kernel) ?_
    tm_at "wp"
    refine w_iteb (fun hb => ?_) (fun h5 => ?_)
    · tm_at "wp"
      refine w_xp (w_var (by with_unfolding_all exact rfl) ⟨rfl, _, y, hh.2.2, fin ("InvalidSlots", "slots", "slots") (by decide +kernel) hb, ?_⟩)
      tm_at "wp"
      rename_i l hl
      exact k l _ (same_new hl) upd_same
    tm_at "wp"
    refine w_isP xE he hh (by decide +kernel) ?_
    tm_at "wp"
    refine w_iteb (fun hb => ?_) (fun h6 => ?_)
    · tm_at "wp"
      refine w_xp (w_var (by with_unfolding_all exact rfl) ⟨rfl, _, y, hh.2.2, fin ("InvalidSize", "size", "size") (by decide +kernel) hb, ?_⟩)
      tm_at "wp"
      rename_i l hl
      exact k l _ (same_new hl) upd_same
    tm_at "wp"
    refine w_isP xE he hh (by decide +kernel) ?_
    tm_at "wp"
    have hb := ex_oth e he ho h1 h2 h3 h4 h5 h6
    rw [hb]
    refine w_iteT ?_
    tm_at "wp"
    refine w_xp (w_var (by with_unfolding_all exact rfl) ⟨rfl, _, y, hh.2.2, fin ("InvalidLine", "line", "line") (by decide +kernel) hb, ?_⟩)
    tm_at "wp"
    rename_i l hl
    exact k l _ (same_new hl) upd_same
theorem ok__law_shown {P : Program} {w : World} {K : PySem.W.Frag} {mg : Str → Option Value} {base : Heap} (fr : Fre mg) (D : Dfd K mg "_law_shown" s__law_shown) : Has P w K mg base CX0 1 "_law_shown" s__law_shown ["_law_bag_here"] (sp__law_shown K) := by
  refine D.has sc__law_shown (fun vs H Q E h => ?_) (fun cdv A outer s H vs Q E hr hg h => ?_)
  · obtain ⟨v, ps, rfl, _⟩ := h; rfl
  · obtain ⟨v, ps, rfl, hd, hb, hn, k⟩ := h
    have nd := sc__law_shown.nd
    refine ⟨_, PSs.nox (pss_one (ps_ret (pe_ifExp (pt_cmpR (k_neD K (hr.units)) (pv 0) (pe_tup pa_nil) (nomark _)) (k_join K pe_str (pe_lc (own := [("_law_word", 1), ("_law_many", 2)]) (g := gTup K 2 (gCons (gName 1) (gCons (gName 2) gNil))) (tt := tYes) rfl nd (k_iTup K (pv 0)) (blkOk_by (own := [("_law_word", 1), ("_law_many", 2)]) (N := N__law_shown) (sc := defScope s__law_shown) (by decide +kernel)) (fun _ _ _ _ _ => (k_gtup K rfl (pgs_cons (pg_name (i := 1) nd rfl (Or.inl rfl)) (pgs_cons (pg_name (i := 2) nd rfl (Or.inl rfl)) pgs_nil)))) (fun _ _ _ _ _ => pts_nil) (fun _ _ _ _ _ => (pe_op o_addS (pe_op o_addS (pv 1) pe_str) (pe_callTy c_strI rfl fr.str_ (by decide +kernel) (pa_cons (pv 2) pa_nil)))))) pe_str))), ?_⟩
    try dsimp only [cxOf]
    tm_at "wp"
    rename_i q0 hq0
    refine w_neB (qs := []) (dp_same (same_new hq0) hd) (.tup (SqT.of upd_same) .nil) (fun p hp => (hb p hp).1) nofun ?_
    refine w_bl ?_
    refine w_iten (fun h0 => ?_) (fun h0 => ?_)
    · have hd1 := dp_same (same_new (u := .tup []) hq0) hd
      have s1 : Same H (upd H q0 (.tup [])) := same_new hq0
      generalize upd H q0 (.tup []) = H0 at hd1 s1
      obtain ⟨a, xs, rfl, hs, hx, hl⟩ := bag_inv hd1
      tm_at "wp"
      refine w_onT hs ?_
      intro D0 hD
      refine lc_map walk_tup (n := xs.length) (by omega) (fun i y => ∃ p, ps[i]? = some p ∧ y = .str (ptS p)) hD (fun _ s => sqt_same s hs) ?_ ?_ mono_gpair
      · rintro i y H1 H2 hi s ⟨rfl, hy⟩ Qy hq
        obtain ⟨p, b, e1, rfl, hb'⟩ := bag_get hx hy
        obtain ⟨h1, h2, h3⟩ := hb p (List.mem_of_getElem? e1)
        have hpl := (ptS_len h1 h2 h3).2
        have hnl := (isName_len h1).2
        refine w_gtup (sqt_same s hb') rfl ?_
        tm_at "wp"
        refine ⟨rfl, ?_⟩
        tm_at "wp"
        refine w_addS (by have : Str.length (":" : Str) = 1 := (by decide +kernel); exact sz_le (by omega)) ?_
        tm_at "wp"
        refine w_strI h2 h3 ?_
        refine w_addS (by have e : (ptS p).length = _ := app_len (p.1 ++ (":" : Str)) (intS p.2); exact sz_le (by omega)) ?_
        exact hq _ _ (Same.refl _) ⟨p, e1, rfl⟩
      · intro acc H1 s _ hacc hl2 hf
        have e : acc = (ps.map ptS).map V.str := by
          rw [List.map_map]
          exact acc_map (by omega) hf
        rw [e] at hacc
        have hj := parts_len hb
        have hjl := join_len hb
        refine w_join (SqL.of hacc) (by omega) ?_
        have ec : cText ps = Txt.join (" " : Str) (ps.map ptS) := by unfold cText; rw [if_neg h0]
        rw [← ec]
        exact k _ (s1.trans s)
    · tm_at "wp"
      have ec : cText ps = "-" := by unfold cText; rw [if_pos h0]
      have := k _ (same_new (u := .tup []) hq0)
      rw [ec] at this
      exact this
theorem ok__law_pair {P : Program} {w : World} {K : PySem.W.Frag} {mg : Str → Option Value} {base : Heap} (fr : Fre mg) (D : Dfd K mg "_law_pair" s__law_pair) : Has P w K mg base CX0 1 "_law_pair" s__law_pair ["_law_word"] (sp__law_pair K) := by
  refine D.has sc__law_pair (fun vs H Q E h => ?_) (fun cdv A outer s H vs Q E hr hg h => ?_)
  · obtain ⟨w, rfl, _⟩ := h; rfl
  · obtain ⟨w, rfl, hl, hdr, k, k0⟩ := h
    have nd := sc__law_pair.nd
    refine ⟨_, PSs.nox (pss_cons (ps_set (i := 1) nd rfl (Or.inl rfl) (pe_split (pv 0) pe_str))
      (pss_cons (ps_if (PW.pt (pw_or (pt_cmpR op_ne (pe_callB (k_len K) rfl fr.len_ (by decide +kernel) (pa_cons (pv 1) pa_nil)) pe_int (nomark _)) (pw_or (pt_not (pt_chain op_lt op_lt pe_int (pe_callB (k_len K) rfl fr.len_ (by decide +kernel) (pa_cons (pe_ix (k_ixL K) (pv 1) pe_int (fun _ _ => rfl)) pa_nil)) pe_int)) (pw_or (pt_cmpR op_eq (pe_ix (k_ixL K) (pv 1) pe_int (fun _ _ => rfl)) pe_str (nomark _)) (pw_or1 (pt_cmpR op_eq (pe_ix ix_str (pe_ix (k_ixL K) (pv 1) pe_int (fun _ _ => rfl)) pe_int (fun _ _ => rfl)) pe_str (nomark _))))))) (pss_one (ps_ret pe_non)) pss_nil)
      (pss_cons (ps_if (pt_val (pe_callB (k_any K rfl) rfl fr.any_ (by decide +kernel) (pa_cons (pe_lc (own := [("_law_letter", 2)]) (g := gName 2) (tt := tYes) rfl nd (pi_str (pe_ix (k_ixL K) (pv 1) pe_int (fun _ _ => rfl))) (blkOk_by (own := [("_law_letter", 2)]) (N := N__law_pair) (sc := defScope s__law_pair) (by decide +kernel)) (fun _ _ _ _ _ => (pg_name (i := 2) nd rfl (Or.inl rfl))) (fun _ _ _ _ _ => pts_nil) (fun _ _ _ _ _ => (pe_cmpR o_notInSign (pv 2) pe_str rfl))) pa_nil))) (pss_one (ps_ret pe_non)) pss_nil)
      (pss_cons (ps_if (pt_val (pe_callB (k_any K rfl) rfl fr.any_ (by decide +kernel) (pa_cons (pe_lc (own := [("_law_digit", 3)]) (g := gName 3) (tt := tYes) rfl nd (pi_str (pe_ix (k_ixL K) (pv 1) pe_int (fun _ _ => rfl))) (blkOk_by (own := [("_law_digit", 3)]) (N := N__law_pair) (sc := defScope s__law_pair) (by decide +kernel)) (fun _ _ _ _ _ => (pg_name (i := 3) nd rfl (Or.inl rfl))) (fun _ _ _ _ _ => pts_nil) (fun _ _ _ _ _ => (pe_cmpR o_notInSign (pv 3) pe_str rfl))) pa_nil))) (pss_one (ps_ret pe_non)) pss_nil)
      (pss_one (ps_ret (pe_tup (pa_cons (pe_ix (k_ixL K) (pv 1) pe_int (fun _ _ => rfl)) (pa_cons (pe_callTy c_intS rfl fr.int_ (by decide +kernel) (pa_cons (pe_ix (k_ixL K) (pv 1) pe_int (fun _ _ => rfl)) pa_nil)) pa_nil))))))))), ?_⟩
    try dsimp only [cxOf]
    have est : ∀ a0 : V, L2.start N__law_pair [a0] = [some a0, none, none, none] := fun _ => rfl
    simp only [est]
    clear est
    tm_at "vp"
    refine ⟨w, ":", rfl, rfl, by decide +kernel, by rw [sizeLine_eq]; omega, ?_⟩
    obtain ⟨parts, ep⟩ : ∃ parts, Txt.split w ":" = parts := ⟨_, rfl⟩
    rw [show Txt.split w (Str.ofString ":") = parts from ep]
    intro R hR
    have sR := same_new hR (u := HO.lst (parts.map V.str))
    have fR := @upd_same H R (HO.lst (parts.map V.str))
    generalize upd H R (HO.lst (parts.map V.str)) = H1 at *
    tm_at "vp"
    refine w_lenL (SqL.of fR) ?_
    rw [List.length_map]
    tm_at "vp"
    rcases col_case w with ⟨_, e, en⟩ | ⟨a, b, ha, ew, e, en⟩
    · rw [ep] at e
      subst e
      rw [show decide ((([w].length : Nat) : Int) = 2) = false from decide_eq_false (fun z => by simp at z)]
      refine w_iteT ?_
      refine w_iteT ?_
      tm_at "vp"
      exact k0 (pairP_none en) _ sR
    rw [ep] at e
    by_cases hc : 58 ∈ TL.tl b
    · have hl3 := split_two hc
      have hne : decide (((parts.length : Nat) : Int) = 2) = false := decide_eq_false fun z => by
        rw [e, List.length_cons] at z
        omega
      rw [hne]
      refine w_iteT ?_
      refine w_iteT ?_
      tm_at "vp"
      exact k0 (pairP_num en (numT_colon hc)) _ sR
    rw [splitC_no hc] at e
    subst e
    rw [show decide ((([a, b].length : Nat) : Int) = 2) = true from decide_eq_true rfl]
    refine w_iteF ?_
    have hla : a.length ≤ 80000 ∧ b.length ≤ 80000 := by
      have := congrArg Str.length ew
      rw [app_len, app_len] at this
      omega
    have hb6 : allDig b = true → b.length ≤ 640 := fun h => dr_num (hdr.sub (a := TL.tl (a ++ (":" : Str))) (c := []) (by rw [ew, tl_app]; simp)) h
    tm_at "vp"
    refine w_ixL (SqL.of fR) (v := .str a) rfl ?_
    tm_at "vp"
    refine w_lenS (sz_le (by omega)) ?_
    tm_at "vp"
    have nm0 : ¬ (0 < a.length ∧ a.length < 9) → pairP w = none := fun h => pairP_name en (by
      rw [name_dec]
      cases h1 : decide (0 < a.length) with
      | false => rfl
      | true =>
        cases h2 : decide (a.length < 9) with
        | false => rfl
        | true => exact absurd ⟨of_decide_eq_true h1, of_decide_eq_true h2⟩ h)
    refine w_ited (fun h1 => ?_) (fun h1 => ?_)
    rotate_left
    · refine w_bl ?_
      refine w_iteT ?_
      refine w_iteT ?_
      tm_at "vp"
      exact k0 (nm0 (by omega)) _ sR
    tm_at "vp"
    cases h9 : decide (((a.length : Nat) : Int) < 9) with
    | false =>
      have h9 := of_decide_eq_false h9
      refine w_iteT ?_
      refine w_iteT ?_
      tm_at "vp"
      exact k0 (nm0 (by omega)) _ sR
    | true =>
    have h9 := of_decide_eq_true h9
    refine w_iteF ?_
    tm_at "vp"
    refine w_ixL (SqL.of fR) (v := .str b) rfl ?_
    tm_at "vp"
    refine w_ited (fun hb => ?_) (fun hb => ?_)
    · refine w_iteT ?_
      tm_at "vp"
      exact k0 (pairP_num en (num_no (by rw [show b = "" from hb]; decide +kernel))) _ sR
    have hb : b ≠ "" := hb
    obtain ⟨c, r, ec⟩ : ∃ c r, TL.tl b = c :: r := List.exists_cons_of_ne_nil fun z => hb (str_tl (by rw [z]; decide +kernel))
    tm_at "vp"
    refine w_ixL (SqL.of fR) (v := .str b) rfl ?_
    tm_at "vp"
    refine w_ixS (c := c) (sz_le (by omega)) (at_of' (j := 0) rfl (show b.cps.toList[0]? = some c by show (TL.tl b)[0]? = some c; rw [ec]; rfl)) ?_
    tm_at "vp"
    cases hz : decide ((⟨#[c]⟩ : Str) = "0") with
    | true =>
      have hz : (⟨#[c]⟩ : Str) = "0" := of_decide_eq_true hz
      have ec48 : c = 48 := by
        have e0 : TL.tl (⟨#[c]⟩ : Str) = TL.tl ("0" : Str) := by rw [hz]
        have e1 : TL.tl ("0" : Str) = [48] := by decide +kernel
        rw [e1] at e0
        exact (List.cons.inj e0).1
      refine w_iteT ?_
      tm_at "vp"
      refine k0 ?_ _ sR
      cases hd : allDig b with
      | true => exact pairP_zero en (by rw [ec, ec48]; rfl) (hb6 hd)
      | false => exact pairP_num en (num_no (by unfold okN; rw [hd, decide_eq_false hb]; rfl))
    | false =>
    have hz : (⟨#[c]⟩ : Str) ≠ "0" := of_decide_eq_false hz
    have hh : (TL.tl b).head? ≠ some 48 := fun z => by
      rw [ec] at z
      cases Option.some.inj (show some c = some 48 from z)
      exact hz (by decide +kernel)
    refine w_iteF ?_
    tm_at "vp"
    simp only [List.set_cons_zero, List.set_cons_succ]
    refine w_ixL (SqL.of fR) (v := .str a) rfl ?_
    refine ⟨a, rfl, ?_⟩
    intro D hD
    refine lc_map walk_str (n := a.cps.size) (by have : a.length = a.cps.size := rfl; omega) (fun j y => ∃ c, a.cps.toList[j]? = some c ∧ y = .bl (!isLet c)) hD (fun _ _ => trivial) ?_ ?_ mono_gname
    · rintro j y G1 G2 hj s ⟨rfl, c, hc, rfl⟩ Qy hq
      refine w_gname ⟨rfl, ?_⟩
      tm_at "vp"
      refine hq _ _ (Same.refl _) ⟨c, by simpa using hc, congrArg V.bl ?_⟩
      rw [lets_dec c]
    intro acc H2 s2 _ hacc hal hf
    have eacc : acc = (a.cps.toList.map fun c => !isLet c).map V.bl := by rw [List.map_map]; exact acc_map (by simpa using hal) hf
    rw [eacc] at hacc
    tm_at "vp"
    refine w_any (SqL.of hacc) ?_
    rw [any_not]
    have sR2 := sR.trans s2
    have fR2 := s2 _ _ fR
    cases hlet : a.cps.toList.all isLet with
    | false =>
      refine w_bl (w_iteT ?_)
      tm_at "vp"
      exact k0 (pairP_name en (by rw [name_dec, show (TL.tl a).all isLet = false from hlet, Bool.and_false, Bool.and_false])) _ sR2
    | true =>
    refine w_bl (w_iteF ?_)
    have hname : isName a = true := by
      rw [name_dec, decide_eq_true (by omega), decide_eq_true (by omega), show (TL.tl a).all isLet = true from hlet]; rfl
    tm_at "vp"
    refine w_ixL (SqL.of fR2) (v := .str b) rfl ?_
    refine ⟨b, rfl, ?_⟩
    intro D2 hD2
    refine lc_map walk_str (n := b.cps.size) (by have : b.length = b.cps.size := rfl; omega) (fun j y => ∃ c, b.cps.toList[j]? = some c ∧ y = .bl (!isDig c)) hD2 (fun _ _ => trivial) ?_ ?_ mono_gname
    · rintro j y G1 G2 hj s ⟨rfl, c, hc, rfl⟩ Qy hq
      refine w_gname ⟨rfl, ?_⟩
      tm_at "vp"
      refine hq _ _ (Same.refl _) ⟨c, by simpa using hc, congrArg V.bl ?_⟩
      rw [digs_dec c]
    intro acc2 H3 s3 _ hacc2 hal2 hf2
    have eacc2 : acc2 = (b.cps.toList.map fun c => !isDig c).map V.bl := by rw [List.map_map]; exact acc_map (by simpa using hal2) hf2
    rw [eacc2] at hacc2
    tm_at "vp"
    refine w_any (SqL.of hacc2) ?_
    rw [any_not]
    have sR3 := sR2.trans s3
    have fR3 := s3 _ _ fR2
    cases hdig : b.cps.toList.all isDig with
    | false =>
      refine w_bl (w_iteT ?_)
      tm_at "vp"
      exact k0 (pairP_num en (num_no (by unfold okN; rw [show allDig b = false from hdig, Bool.false_and, Bool.and_false]))) _ sR3
    | true =>
    refine w_bl (w_iteF ?_)
    obtain ⟨n, hn1, hn2⟩ := pairP_good en hname hb hh hdig (hb6 hdig)
    tm_at "vp"
    refine w_ixL (SqL.of fR3) (v := .str a) rfl ?_
    tm_at "vp"
    refine w_ixL (SqL.of fR3) (v := .str b) rfl ?_
    tm_at "vp"
    refine w_intS hn1 (hb6 hdig) ?_
    tm_at "vp"
    rename_i T hT
    exact k (a, n) hn2 (.ref T) _ (sR3.trans (same_new hT)) (pair_mk (SqT.of upd_same))
theorem ok__law_due {P : Program} {w : World} {K : PySem.W.Frag} {mg : Str → Option Value} {base : Heap} (fr : Fre mg) (D : Dfd K mg "_law_due" s__law_due)
    (h__law_pair : Has P w K mg base CX0 1 "_law_pair" s__law_pair ["_law_word"] (sp__law_pair K)) : Has P w K mg base CX0 2 "_law_due" s__law_due ["_law_shown_here"] (sp__law_due K) := by
  refine D.has sc__law_due (fun vs H Q E h => ?_) (fun cdv A outer s H vs Q E hr hg h => ?_)
  · obtain ⟨t, rfl, _⟩ := h; rfl
  · obtain ⟨t, rfl, hl, hdr, k, k0⟩ := h
    have nd := sc__law_due.nd
    refine ⟨_, PSs.nox (pss_cons (ps_set (i := 1) nd rfl (Or.inl rfl) (pe_lst pa_nil))
      (pss_cons (ps_for PassesOwn.never rfl (k_iList K (pe_ifExp (pt_cmpR op_ne (pv 0) pe_str (nomark _)) (pe_split (pv 0) pe_str) (pe_lst pa_nil))) (pg_name (i := 2) nd rfl (Or.inl rfl))
        (pss_cons (ps_set (i := 3) nd rfl (Or.inl rfl) (pe_fn h__law_pair pb__law_pair (hr.mono (by decide)) hg rfl pass0 (pa_cons (pv 2) pa_nil)))
      (pss_cons (ps_if (PW.pt (pw_or (pt_cmpR o_isN (pv 3) pe_non (nomark _)) (pw_or (PW.pt (pw_and (pt_cmpR (k_neE K (u66 hr)) (pv 1) (pe_lst pa_nil) (nomark _)) (pw_and1 (pt_cmpR o_leS (pe_ix (k_ixT K) (pv 3) pe_int (fun _ _ => rfl)) (pe_ix (k_ixT K) (pe_ix (k_ixL K) (pv 1) (pe_un un_neg pe_int) (fun _ _ => rfl)) pe_int (fun _ _ => rfl)) (nomark _))))) (pw_or1 (pt_cmpR op_eq (pe_callB (k_len K) rfl fr.len_ (by decide +kernel) (pa_cons (pv 1) pa_nil)) pe_int (nomark _)))))) (pss_one (ps_ret pe_non)) pss_nil)
      (pss_one (ps_expr (k_bm K PySem.F.plainAttrs_list PySem.F.slot_list_append PySem.F.type_list_append mt_append (pv 1) (pa_cons (pv 3) pa_nil)))))))
      (pss_one (ps_ret (pe_callTy (k_tuple K) rfl fr.tuple_ (by decide +kernel) (pa_cons (pv 1) pa_nil)))))), ?_⟩
    try dsimp only [cxOf]
    have est : ∀ a0 : V, L2.start N__law_due [a0] = [some a0, none, none, none] := fun _ => rfl
    simp only [est]
    clear est
    tm_at "vp"
    rename_i l hl0
    have hlt := hl
    refine w_ifE (fun v H' => ∃ a, v = .ref a ∧ a ≠ l ∧ Same (upd H l (.lst [])) H' ∧ H' a = some (.lst ((wordsT t).map V.str))) ?_ (fun hd hx => ?_) (fun hd hx => ?_)
    rotate_left
    · have e0 : t ≠ "-" := fun e => by rw [decide_eq_true e] at hd; cases hd
      refine w_M1 (w_var (by with_unfolding_all exact rfl) ?_)
      tm_at "vp"
      refine ⟨_, _, rfl, rfl, by decide +kernel, by rw [sizeLine_eq]; omega, ?_⟩
      intro e1 he1
      exact hx _ _ ⟨e1, rfl, (ne_fresh upd_same he1).symm, same_new he1, by unfold wordsT; rw [if_neg e0]; exact upd_same⟩
    · have e0 : t = "-" := Classical.byContradiction fun e => by rw [decide_eq_false e] at hd; cases hd
      refine w_lst (w_nil (w_allocL (by with_unfolding_all exact rfl) ?_))
      intro e1 he1
      exact hx _ _ ⟨e1, rfl, (ne_fresh upd_same he1).symm, same_new he1, by unfold wordsT; rw [if_pos e0]; exact upd_same⟩
    rintro v H1 ⟨a, rfl, hal, s1, ha⟩
    have s01 : Same H H1 := (same_new hl0).trans s1
    have hl1 := s1 _ _ (upd_same (H := H) (a := l) (o := .lst []))
    clear s1
    have hwl := words_le t
    simp only [List.set_cons_zero, List.set_cons_succ]
    refine w_onL (SqL.of ha) ?_
    refine for_go (walk_list (xs := (wordsT t).map V.str)) (fun i σ H' => ∃ (u2 u3 : Option V) (xs : List V) (rs : Bag), σ = [some (.str t), some (.ref l), u2, u3] ∧ SameB l H1 H' ∧ H' l = some (.lst xs) ∧ DpAll K H' xs (rs.map pairD) ∧ scanL ((wordsT t).take i) = some rs ∧ BagOk rs ∧ rs.length ≤ 12) ⟨_, _, [], [], rfl, fun _ _ _ e => e, hl1, .nil, rfl, bagOk_nil, by decide⟩ (fun i σ H' _ ⟨_, _, _, _, _, s, _⟩ => SqL.of (s _ _ hal ha)) ?_ ?_
    · rintro i y σ H2 H3 hi ⟨u2, u3, xs, rs, rfl, s2, hl2, hd, hrs, hrb, hr12⟩ ⟨rfl, hy⟩
      obtain ⟨w, e1, rfl⟩ : ∃ w, (wordsT t)[i]? = some w ∧ y = .str w := by
        rw [List.getElem?_map] at hy
        cases e : (wordsT t)[i]? with
        | none => rw [e] at hy; cases hy
        | some q => rw [e] at hy; exact ⟨q, rfl, (Option.some.inj hy).symm⟩
      have hwm := List.mem_of_getElem? e1
      have hwt := word_len hwm
      rw [List.length_map] at hi
      have hxl : xs.length = rs.length := by rw [dps_len hd, List.length_map]
      have s03 : ∀ G, Same H3 G → Same H G := fun G sg z o e => sg _ _ (s2 z o (ne_fresh e hl0) (s01 z o e))
      refine w_gname ?_
      simp only [List.set_cons_zero, List.set_cons_succ]
      tm_at "vp"
      refine ⟨w, rfl, by omega, word_dr hdr hwm, fun q eq v H4 s4 hv => ?_, fun eq H4 s4 => ?_⟩
      rotate_left
      · tm_at "vp"
        exact k0 (dueC_no e1 hrs (.inl eq)) _ (s03 _ s4)
      obtain ⟨T, rfl, hT⟩ := pair_inv hv
      have hl4 := s4 _ _ hl2
      have hd4 := dps_same s4 hd
      tm_at "vq"
      with_reducible refine w_cut (fun σ H' => σ = [some (.str t), some (.ref l), some (.str w), some (.ref T)] ∧ Same H4 H' ∧ (rs = [] ∨ ∃ r p, rs = r ++ [p] ∧ ltS p.1 q.1) ∧ rs.length < 12) ?_ ?_
      rotate_left
      · intro kE
        simp only [List.set_cons_zero, List.set_cons_succ]
        tm_at "vp"
        rename_i e0 he0
        refine w_neE (SqL.of (hp_new hl4 he0)) (SqL.of upd_same) ?_
        have s5 := s4.trans (same_new he0 (u := HO.lst []))
        have s45 := same_new he0 (u := HO.lst [])
        have hl5 := s45 _ _ hl4
        have hT5 := sqt_same s45 hT
        have hd5 := dps_same s45 hd4
        generalize upd H4 e0 (HO.lst []) = H5 at *
        have hlen : ∀ (Q' : Bool → Prop), Q' (decide (((xs.length : Nat) : Int) = 12)) → Q' (decide (((xs.length : Nat) : Int) = 12)) := fun Q' h => h
        rcases List.eq_nil_or_concat rs with rfl | ⟨r, p, rfl⟩
        · have ex : xs = [] := List.length_eq_zero_iff.mp (by rw [hxl]; rfl)
          subst ex
          refine w_bl (w_iteF ?_)
          tm_at "vp"
          refine w_lenL (SqL.of hl5) ?_
          tm_at "vp"
          refine w_iteF ?_
          tm_at "vx"
          exact kE _ _ ⟨rfl, s45, .inl rfl, by decide⟩
        · rw [List.concat_eq_append] at *
          have hx1 : xs.length = r.length + 1 := by rw [hxl, List.length_append]; rfl
          obtain ⟨x, ex, hx⟩ := dps_get' (i := r.length) (d := pairD p) hd5 (by rw [List.map_append, List.getElem?_append_right (by rw [List.length_map]; exact Nat.le_refl _), List.length_map, Nat.sub_self]; rfl)
          obtain ⟨T2, rfl, hT2⟩ := pair_inv hx
          rw [show (!xs.isEmpty) = true from by cases xs with
            | nil => cases hx1
            | cons a b => rfl]
          refine w_bl (w_iteT ?_)
          tm_at "vp"
          refine w_ixT hT5 (v := .str q.1) rfl ?_
          tm_at "vp"
          refine w_ixL (SqL.of hl5) (at_lastX hx1 ex) ?_
          tm_at "vp"
          refine w_ixT hT2 (v := .str p.1) rfl ?_
          tm_at "vp"
          by_cases hlt : ltS p.1 q.1
          · rw [decide_eq_true (show p.1.cps.toList < q.1.cps.toList from hlt)]
            refine w_iteF ?_
            tm_at "vp"
            refine w_lenL (SqL.of hl5) ?_
            tm_at "vp"
            refine w_ited (fun h12 => ?_) (fun h12 => ?_)
            · tm_at "vp"
              exact k0 (dueC_no e1 hrs (.inr (.inr (by rw [← hxl]; omega)))) _ (s03 _ s5)
            · tm_at "vx"
              exact kE _ _ ⟨rfl, s45, .inr ⟨r, p, rfl, hlt⟩, by omega⟩
          · rw [decide_eq_false (show ¬ p.1.cps.toList < q.1.cps.toList from hlt)]
            refine w_iteT ?_
            refine w_iteT ?_
            tm_at "vp"
            exact k0 (dueC_no e1 hrs (.inr (.inl ⟨q, p, eq, List.mem_append.mpr (.inr List.mem_cons_self), hlt⟩))) _ (s03 _ s5)
      rintro σ H6 ⟨rfl, s6, hcond, hl12⟩
      have sg := s4.trans s6
      have hl6 := s6 _ _ hl4
      have hd6 := dps_same s6 hd4
      have hT6 := sqt_same s6 hT
      obtain ⟨hpc, hnm, hps⟩ := pairP_inv eq
      tm_at "vp"
      refine w_tyL hl6 ?_
      tm_at "vp"
      refine w_append hl6 (sz_lt (by omega)) ⟨_, _, xs ++ [.ref T], rs ++ [q], rfl, (fun z o hz e => ?_), upd_same, ?_, ?_, bag_snocX hrb hnm hps hcond, by rw [List.length_append]; show rs.length + 1 ≤ 12; omega⟩
      · rw [upd_ne hz]; exact sg _ _ (s2 z o hz e)
      · have st : SameT H6 (upd H6 l (.lst (xs ++ [.ref T]))) := SameT.lst hl6
        rw [List.map_append]
        refine dps_snoc ?_ ?_
        · exact dps_flat st hd6 (by have := flat_bag rs; simpa [bagD, flatD] using this)
        · exact (pair_mk (st.sqt hT6) : Dp K _ (.ref T) (pairD q))
      · rw [take_succ_snoc e1]; exact scanL_snoc hrs hpc
    · rintro σ H2 ⟨u2, u3, xs, rs, rfl, s2, hl2, hd, hrs, hrb, hr12⟩
      rw [List.length_map, List.take_length] at hrs
      have s02 : Same H H2 := fun z o e => s2 z o (ne_fresh e hl0) (s01 z o e)
      dsimp only
      tm_at "vp"
      refine w_tupL (SqL.of hl2) ?_
      intro T hT
      exact k rs (due_yes hrs hrb hr12) (.ref T) _ (same_step s02 hT) (.tup (SqT.of upd_same) (dps_same (same_new hT) hd))
theorem ok__law_bent {P : Program} {w : World} {K : PySem.W.Frag} {mg : Str → Option Value} {base : Heap} (fr : Fre mg) (D : Dfd K mg "_law_bent" s__law_bent)
    (h__law_draw : Has P w K mg base CX0 1 "_law_draw" s__law_draw ["_law_pool_here", "_law_many"] (sp__law_draw K)) : Has P w K mg base CX0 2 "_law_bent" s__law_bent ["_law_pool_here", "_law_shown_here", "_law_signs"] (sp__law_bent K) := by
  refine D.has sc__law_bent (fun vs H Q E h => ?_) (fun cdv A outer s H vs Q E hr hg h => ?_)
  · obtain ⟨p, t, rfl, _⟩ := h; rfl
  · obtain ⟨p, t, rfl, hp, ht, k⟩ := h
    have nd := sc__law_bent.nd
    refine ⟨_, PSs.nox (pss_cons (ps_for PassesOwn.never rfl (pi_range1 rfl fr.range_ (pa_cons (pe_op op_add pe_int (pe_fn h__law_draw pb__law_draw (hr.mono (by decide)) hg rfl pass0 (pa_cons (pv 0) (pa_cons pe_int pa_nil)))) pa_nil)) (pg_name (i := 3) nd rfl (Or.inl rfl))
        (pss_cons (ps_par (i := 4) (j := 5) rfl nd rfl rfl (by decide) rfl rfl (pa_cons (pe_fn h__law_draw pb__law_draw (hr.mono (by decide)) hg rfl pass0 (pa_cons (pv 0) (pa_cons (pe_op op_add (pe_callB (k_len K) rfl fr.len_ (by decide +kernel) (pa_cons (pv 1) pa_nil)) pe_int) pa_nil))) (pa_cons (pe_fn h__law_draw pb__law_draw (hr.mono (by decide)) hg rfl pass0 (pa_cons (pv 0) (pa_cons pe_int pa_nil))) pa_nil)) rfl)
      (pss_cons (ps_par (i := 6) (j := 7) rfl nd rfl rfl (by decide) rfl rfl (pa_cons (pe_op op_add (pe_op op_add (pv 4) pe_int) (pe_fn h__law_draw pb__law_draw (hr.mono (by decide)) hg rfl pass0 (pa_cons (pv 0) (pa_cons pe_int pa_nil)))) (pa_cons (pe_ix ix_str (pv 2) (pe_fn h__law_draw pb__law_draw (hr.mono (by decide)) hg rfl pass0 (pa_cons (pv 0) (pa_cons (pe_callB (k_len K) rfl fr.len_ (by decide +kernel) (pa_cons (pv 2) pa_nil)) pa_nil))) (fun _ _ => rfl)) pa_nil)) rfl)
      (pss_cons (ps_par (i := 8) (j := 9) rfl nd rfl rfl (by decide) rfl rfl (pa_cons (pe_slice sl_str (pv 1) po_none (po_some (pv 4))) (pa_cons (pe_slice sl_str (pv 1) (po_some (pv 4)) po_none) pa_nil)) rfl)
      (pss_one (ps_set (i := 1) nd rfl (Or.inl rfl) (pe_ix (k_ixL K) (pe_lst (pa_cons (pe_op o_addS (pv 8) (pe_slice sl_str (pv 9) (po_some pe_int) po_none)) (pa_cons (pe_op o_addS (pe_op o_addS (pv 8) (pv 7)) (pv 9)) (pa_cons (pe_op o_addS (pe_op o_addS (pv 8) (pv 7)) (pe_slice sl_str (pv 9) (po_some pe_int) po_none)) (pa_cons (pe_op o_addS (pe_op o_addS (pv 8) (pe_slice sl_str (pv 1) (po_some (pv 4)) (po_some (pv 6)))) (pv 9)) (pa_cons (pe_op o_addS (pe_op o_addS (pe_op o_addS (pv 8) (pe_slice sl_str (pv 9) (po_some pe_int) (po_some pe_int))) (pe_slice sl_str (pv 9) po_none (po_some pe_int))) (pe_slice sl_str (pv 9) (po_some pe_int) po_none)) pa_nil)))))) (pv 5) (fun _ _ => rfl))))))))
      (pss_one (ps_ret (pv 1)))), ?_⟩
    try dsimp only [cxOf]
    have est : ∀ a0 a1 a2 : V, L2.start N__law_bent [a0, a1, a2] = [some a0, some a1, some a2, none, none, none, none, none, none, none] := fun _ _ _ => rfl
    simp only [est]
    clear est
    tm_at "vp"
    have hts : ∀ i : Nat, i ≤ 3 → (1400 * 2 ^ i + 8 * (2 ^ i - 1) ≤ 20000) ∧ (40 * 2 ^ i + 8 * (2 ^ i - 1) ≤ 500) := fun i hi => by
      match i, hi with
      | 0, _ => decide
      | 1, _ => decide
      | 2, _ => decide
      | 3, _ => decide
    refine ⟨p, 3, rfl, hp, by decide, by decide, fun n H1 n0 n1 s1 => ?_⟩
    tm_at "vp"
    refine w_onR1 ⟨by omega, by omega⟩ ?_
    refine for_go walk_range (fun i σ H' => ∃ (u3 u4 u5 u6 u7 u8 u9 : Option V) (b : Str), σ = [some (.ref p), some (.str b), some (.str ": -0123456789abz\n"), u3, u4, u5, u6, u7, u8, u9] ∧ Same H1 H' ∧ TxtOk (1400 * 2 ^ i + 8 * (2 ^ i - 1)) (40 * 2 ^ i + 8 * (2 ^ i - 1)) b) ⟨_, _, _, _, _, _, _, t, rfl, Same.refl _, ht⟩ (fun _ _ _ _ _ => trivial) ?_ ?_
    rotate_left
    · rintro σ Hz ⟨u3, u4, u5, u6, u7, u8, u9, b, rfl, sz, hb⟩
      dsimp only
      tm_at "vp"
      have := hts (1 + n).toNat (by omega)
      exact k b _ (s1.trans sz) (hb.mono (by omega) (by omega))
    rintro i y σ Ha Hb hi ⟨u3, u4, u5, u6, u7, u8, u9, b, rfl, sb, hb⟩ ⟨rfl, rfl⟩
    have hi3 : i < 3 := by omega
    have hbb := hts i (by omega)
    have hbs := hts (i + 1) (by omega)
    have hblen : b.length ≤ 20000 := by have := hb.len; omega
    refine w_gname ?_
    simp only [List.set_cons_zero, List.set_cons_succ]
    have hp1 := (s1.trans sb) _ _ hp
    tm_at "vp"
    refine w_lenS (sz_le (by omega)) ?_
    tm_at "vp"
    refine ⟨p, _, rfl, hp1, by omega, by omega, fun a H2 a0 a1 s2 => ?_⟩
    tm_at "vp"
    refine ⟨p, 5, rfl, s2 _ _ hp1, by decide, by decide, fun w H3 w0 w1 s3 => ?_⟩
    have s23 := s2.trans s3
    have hp3 := s23 _ _ hp1
    tm_at "vp"
    refine ⟨p, 6, rfl, hp3, by decide, by decide, fun m H4 m0 m1 s4 => ?_⟩
    have hp4 := s4 _ _ hp3
    tm_at "vp"
    refine w_lenS (sz_le (by decide +kernel)) ?_
    rw [show (Str.length (": -0123456789abz\n" : Str)) = 17 from by decide +kernel]
    tm_at "vp"
    refine ⟨p, _, rfl, hp4, by decide, by decide, fun g H5 g0 g1 s5 => ?_⟩
    obtain ⟨gn, rfl⟩ := Int.eq_ofNat_of_zero_le g0
    have hgl : gn < (": -0123456789abz\n" : Str).cps.toList.length := by rw [bent_sg.1]; omega
    have hg : (": -0123456789abz\n" : Str).cps.toList[gn]? = some ((": -0123456789abz\n" : Str).cps.toList[gn]) := List.getElem?_eq_getElem hgl
    have hc := bent_sg.2 _ (List.getElem_mem hgl)
    generalize (": -0123456789abz\n" : Str).cps.toList[gn] = c at *
    refine w_ixS (c := c) (sz_le (by decide +kernel)) (at_of' (j := gn) rfl hg) ?_
    have s25 := s23.trans (s4.trans s5)
    tm_at "vp"
    refine w_slS (sz_le (by omega)) ?_
    tm_at "vp"
    refine w_slS (sz_le (by omega)) ?_
    tm_at "vp"
    have cl : ∀ lo hi, (cutS b lo hi).length ≤ 20000 := fun lo hi => Nat.le_trans (cutS_length b lo hi) hblen
    have c1 := cl none (some a)
    have c2 := cl (some a) none
    have kL := hb.cut (lo := none) (hi := some a)
    have kR := hb.cut (lo := some a) (hi := none)
    have kM : TxtOk 6 6 (cutS b (some a) (some (a + 1 + m))) := by
      obtain ⟨an, rfl⟩ := Int.eq_ofNat_of_zero_le a0
      obtain ⟨mn, rfl⟩ := Int.eq_ofNat_of_zero_le m0
      have e : ((an : Nat) : Int) + 1 + ((mn : Nat) : Int) = ((an + 1 + mn : Nat) : Int) := by omega
      rw [e]
      exact hb.cut.short (Nat.le_trans (cut_short b _ _) (by omega))
    have c3 := kM.len
    have hs1 := sign_ok hc
    generalize cutS b none (some a) = L at *
    generalize cutS b (some a) none = R at *
    have k1 := kR.cut (lo := some 1) (hi := none)
    have k2 := kR.cut (lo := some 2) (hi := none)
    have k3 : TxtOk 1 1 (cutS R (some 1) (some 2)) := kR.cut.short (cut_short R 1 2)
    have k4 : TxtOk 1 1 (cutS R none (some 1)) := kR.cut.short (cut_short0 R 1)
    have l1 : (cutS R (some 1) none).length ≤ 20000 := Nat.le_trans (cutS_length R _ _) c2
    have l2 : (cutS R (some 2) none).length ≤ 20000 := Nat.le_trans (cutS_length R _ _) c2
    have l3 := k3.len
    have l4 := k4.len
    have ls : (⟨#[c]⟩ : Str).length = 1 := rfl
    have e2 : 2 ^ (i + 1) = 2 * 2 ^ i := by rw [Nat.pow_succ, Nat.mul_comm]
    have e3 : 1 ≤ 2 ^ i := Nat.one_le_two_pow
    have b1 : ∀ x y, x ≤ 2 * (1400 * 2 ^ i + 8 * (2 ^ i - 1)) + 8 → y ≤ 2 * (40 * 2 ^ i + 8 * (2 ^ i - 1)) + 8 → x ≤ 1400 * 2 ^ (i + 1) + 8 * (2 ^ (i + 1) - 1) ∧ y ≤ 40 * 2 ^ (i + 1) + 8 * (2 ^ (i + 1) - 1) := fun x y hx hy => by omega
    refine w_slS (sz_le (by omega)) ?_
    refine w_addS (sz_le (by omega)) ?_
    tm_at "vp"
    refine w_addS (sz_le (by omega)) ?_
    tm_at "vp"
    refine w_addS (sz_le (by rw [app_len]; omega)) ?_
    tm_at "vp"
    refine w_addS (sz_le (by omega)) ?_
    tm_at "vp"
    refine w_slS (sz_le (by omega)) ?_
    refine w_addS (sz_le (by rw [app_len]; omega)) ?_
    tm_at "vp"
    refine w_slS (sz_le (by omega)) ?_
    refine w_addS (sz_le (by omega)) ?_
    tm_at "vp"
    refine w_addS (sz_le (by rw [app_len]; omega)) ?_
    tm_at "vp"
    refine w_slS (sz_le (by omega)) ?_
    refine w_addS (sz_le (by omega)) ?_
    tm_at "vp"
    refine w_slS (sz_le (by omega)) ?_
    refine w_addS (sz_le (by rw [app_len]; omega)) ?_
    tm_at "vp"
    refine w_slS (sz_le (by omega)) ?_
    refine w_addS (sz_le (by rw [app_len, app_len]; omega)) ?_
    obtain ⟨A0, eA0⟩ : ∃ A0, L ++ cutS R (some 1) none = A0 := ⟨_, rfl⟩
    obtain ⟨A1, eA1⟩ : ∃ A1, L ++ (⟨#[c]⟩ : Str) ++ R = A1 := ⟨_, rfl⟩
    obtain ⟨A2, eA2⟩ : ∃ A2, L ++ (⟨#[c]⟩ : Str) ++ cutS R (some 1) none = A2 := ⟨_, rfl⟩
    obtain ⟨A3, eA3⟩ : ∃ A3, L ++ cutS b (some a) (some (a + 1 + m)) ++ R = A3 := ⟨_, rfl⟩
    obtain ⟨A4, eA4⟩ : ∃ A4, L ++ cutS R (some 1) (some 2) ++ cutS R none (some 1) ++ cutS R (some 2) none = A4 := ⟨_, rfl⟩
    have q0 : TxtOk (1400 * 2 ^ (i + 1) + 8 * (2 ^ (i + 1) - 1)) (40 * 2 ^ (i + 1) + 8 * (2 ^ (i + 1) - 1)) A0 := by rw [← eA0]; exact (kL.app k1).mono (b1 _ 0 (by omega) (by omega)).1 (b1 0 _ (by omega) (by omega)).2
    have q1 : TxtOk (1400 * 2 ^ (i + 1) + 8 * (2 ^ (i + 1) - 1)) (40 * 2 ^ (i + 1) + 8 * (2 ^ (i + 1) - 1)) A1 := by rw [← eA1]; exact ((kL.app hs1).app kR).mono (b1 _ 0 (by omega) (by omega)).1 (b1 0 _ (by omega) (by omega)).2
    have q2 : TxtOk (1400 * 2 ^ (i + 1) + 8 * (2 ^ (i + 1) - 1)) (40 * 2 ^ (i + 1) + 8 * (2 ^ (i + 1) - 1)) A2 := by rw [← eA2]; exact ((kL.app hs1).app k1).mono (b1 _ 0 (by omega) (by omega)).1 (b1 0 _ (by omega) (by omega)).2
    have q3 : TxtOk (1400 * 2 ^ (i + 1) + 8 * (2 ^ (i + 1) - 1)) (40 * 2 ^ (i + 1) + 8 * (2 ^ (i + 1) - 1)) A3 := by rw [← eA3]; exact ((kL.app kM).app kR).mono (b1 _ 0 (by omega) (by omega)).1 (b1 0 _ (by omega) (by omega)).2
    have q4 : TxtOk (1400 * 2 ^ (i + 1) + 8 * (2 ^ (i + 1) - 1)) (40 * 2 ^ (i + 1) + 8 * (2 ^ (i + 1) - 1)) A4 := by rw [← eA4]; exact (((kL.app k3).app k4).app k2).mono (b1 _ 0 (by omega) (by omega)).1 (b1 0 _ (by omega) (by omega)).2
    rw [eA0, eA1, eA2, eA3, eA4]
    clear eA0 eA1 eA2 eA3 eA4 k1 k2 k3 k4 kL kR kM
    tm_at "vp"
    rename_i W hW
    have s26 := s25.trans (same_new hW (u := HO.lst [V.str A0, .str A1, .str A2, .str A3, .str A4]))
    obtain ⟨wn, rfl⟩ := Int.eq_ofNat_of_zero_le w0
    obtain ⟨B, hB, kB⟩ : ∃ B, [V.str A0, .str A1, .str A2, .str A3, .str A4][wn]? = some (.str B) ∧ TxtOk (1400 * 2 ^ (i + 1) + 8 * (2 ^ (i + 1) - 1)) (40 * 2 ^ (i + 1) + 8 * (2 ^ (i + 1) - 1)) B := by
      have : wn < 5 := by omega
      match wn, this with
      | 0, _ => exact ⟨A0, rfl, q0⟩
      | 1, _ => exact ⟨A1, rfl, q1⟩
      | 2, _ => exact ⟨A2, rfl, q2⟩
      | 3, _ => exact ⟨A3, rfl, q3⟩
      | 4, _ => exact ⟨A4, rfl, q4⟩
    refine w_ixL (SqL.of upd_same) (at_of' (j := wn) rfl hB) ?_
    tm_at "vp"
    exact ⟨_, _, _, _, _, _, _, B, rfl, sb.trans s26, kB⟩
theorem ok__law_digits_in_row {P : Program} {w : World} {K : PySem.W.Frag} {mg : Str → Option Value} {base : Heap} (fr : Fre mg) (D : Dfd K mg "_law_digits_in_row" s__law_digits_in_row) : Has P w K mg base CX0 1 "_law_digits_in_row" s__law_digits_in_row ["_law_shown_here"] (sp__law_digits_in_row K) := by
  refine D.has sc__law_digits_in_row (fun vs H Q E h => ?_) (fun cdv A outer s H vs Q E hr hg h => ?_)
  · obtain ⟨t, rfl, _⟩ := h; rfl
  · obtain ⟨t, rfl, hl, k⟩ := h
    have nd := sc__law_digits_in_row.nd
    refine ⟨_, PSs.nox (pss_cons (ps_asg (pe_tup (pa_cons pe_int (pa_cons pe_int pa_nil))) (k_gtup K rfl (pgs_cons (pg_name (i := 1) nd rfl (Or.inl rfl)) (pgs_cons (pg_name (i := 2) nd rfl (Or.inl rfl)) pgs_nil))))
      (pss_cons (ps_for PassesOwn.never rfl (pi_str (pv 0)) (pg_name (i := 3) nd rfl (Or.inl rfl))
        (pss_cons (ps_set (i := 2) nd rfl (Or.inl rfl) (pe_ifExp (pt_cmpR o_inSign (pv 3) pe_str rfl) (pe_op op_add (pv 2) pe_int) pe_int))
      (pss_one (ps_set (i := 1) nd rfl (Or.inl rfl) (pe_callB (c_max2 rfl) rfl fr.max_ (by decide +kernel) (pa_cons (pv 1) (pa_cons (pv 2) pa_nil)))))))
      (pss_one (ps_ret (pv 1))))), ?_⟩
    try dsimp only [cxOf]
    have est : ∀ a0 : V, L2.start N__law_digits_in_row [a0] = [some a0, none, none, none] := fun _ => rfl
    simp only [est]
    clear est
    tm_at "vp"
    rename_i T hT
    refine w_gtup (SqT.of upd_same) rfl ?_
    have s1 := same_new hT (u := HO.tup [V.int 0, V.int 0])
    generalize upd H T (HO.tup [V.int 0, V.int 0]) = H1 at *
    tm_at "vp"
    have hsz : t.length = t.cps.size := rfl
    refine for_go walk_str (fun i σ H' => ∃ (u3 : Option V) (g m : Nat), σ = [some (.str t), some (.int (g : Nat)), some (.int (m : Nat)), u3] ∧ H' = H1 ∧ RowI ((TL.tl t).take i) g m) ⟨_, 0, 0, rfl, rfl, rowI_nil⟩ (fun _ _ _ _ _ => trivial) ?_ ?_
    · rintro i y σ Ha Hb hi ⟨u3, g, m, rfl, rfl, hr⟩ ⟨rfl, c, hc, rfl⟩
      have hc' : (TL.tl t)[i]? = some c := by show t.cps.toList[i]? = some c; simpa using hc
      have hst : (TL.tl t).take (i + 1) = (TL.tl t).take i ++ [c] := by
        obtain ⟨h1, h2⟩ := List.getElem?_eq_some_iff.mp hc'
        rw [List.take_succ, hc']; rfl
      have hn := rowI_snoc (c := c) hr
      rw [← hst] at hn
      refine w_gname ?_
      simp only [List.set_cons_zero, List.set_cons_succ]
      tm_at "vp"
      rw [digs_dec c]
      cases hd : isDig c with
      | true =>
        rw [hd, if_pos rfl] at hn
        refine w_iteT ?_
        tm_at "vp"
        have e : (if ((m : Nat) : Int) + 1 > ((g : Nat) : Int) then ((m : Nat) : Int) + 1 else ((g : Nat) : Int)) = ((max g (m + 1) : Nat) : Int) := by split <;> omega
        rw [e]
        exact ⟨some (.str ⟨#[c]⟩), max g (m + 1), m + 1, rfl, rfl, hn⟩
      | false =>
        rw [hd, if_neg (by decide)] at hn
        refine w_iteF ?_
        tm_at "vp"
        have e : (if (0 : Int) > ((g : Nat) : Int) then (0 : Int) else ((g : Nat) : Int)) = ((max g 0 : Nat) : Int) := by split <;> omega
        rw [e]
        exact ⟨some (.str ⟨#[c]⟩), max g 0, 0, rfl, rfl, hn⟩
    rintro σ Hz ⟨u3, g, m, rfl, rfl, hr⟩
    rw [← hsz, List.take_of_length_le (by rw [← TL.len_tl]; exact Nat.le_refl _)] at hr
    dsimp only
    tm_at "vp"
    exact k _ _ (fun h => hr.1.mono (by omega)) s1
theorem ok__law_one_right {P : Program} {w : World} {K : PySem.W.Frag} {mg : Str → Option Value} {base : Heap} (fr : Fre mg) (cl_Summary : ClsF K mg "Summary" ["capacity", "counts", "__bool__"]) (et_Summary___init___0 : ∀ H : Hp, SqT K H (dflA "Summary" "__init__" 0 K) []) (xE : ExF K mg) (D__law_caught : Dfd K mg "_law_caught" s__law_caught) (D : Dfd K mg "_law_one_right" s__law_one_right) (tb__law_one_right : TabB base mg (He.cT K ("_law_one_right", none)).1 (He.cT K ("_law_one_right", none)).2) (hu__law_one_right : ∀ p ∈ tabs K, p.1 = (He.cT K ("_law_one_right", none)).2 → p.2 = "_law_one_right.<locals>.<lambda>")
    (h__law_due : Has P w K mg base CX0 2 "_law_due" s__law_due ["_law_shown_here"] (sp__law_due K))
    (h__law_kind : HasP P w K mg base 1 "_law_kind" s__law_kind ["_law_e"] (sp__law_kind K))
    (h__law_fields : HasP P w K mg base 2 "_law_fields" s__law_fields ["_law_e"] (sp__law_fields K))
    (h_parse_counts : Has P w K mg base (L2.CX P w) 6 "parse_counts" s_parse_counts ["text"] (sp_parse_counts K))
    (h_parse_summary : Has P w K mg base (L2.CX P w) 8 "parse_summary" s_parse_summary ["capacity", "text"] (sp_parse_summary K)) : Has P w K mg base CX0 11 "_law_one_right" s__law_one_right ["_law_widths", "_law_shown_here"] (sp__law_one_right K) := by
  refine D.hasL sc__law_one_right (fun vs H Q E h => ?_) (fun cdv A outer s H vs Q E hcd hr hg h => ?_)
  · obtain ⟨a, ns, t, rfl, _⟩ := h; rfl
  · obtain ⟨a, ns, t, rfl, hs, hns, hnl, ht, hT0, k⟩ := h
    have nd := sc__law_one_right.nd
    refine ⟨_, PSs.nox (pss_cons (ps_set (i := 2) nd rfl (Or.inl rfl) (pe_fn h__law_due pb__law_due (hr.mono (by decide)) hg rfl pass0 (pa_cons (pv 1) pa_nil)))
      (pss_cons (ps_set (i := 3) nd rfl (Or.inl rfl) (pe_lst (pa_cons (pe_caught (T := tabs K) (k := 6) D__law_caught sc__law_caught pb__law_caught (Or.inl rfl) rfl (fun cdv => caught_gives (hr.mono (by decide)) hg h__law_kind h__law_fields pb__law_kind pb__law_fields (xE.glo _ (by decide +kernel)) (xE.glo _ (by decide +kernel)) (xE.glo _ (by decide +kernel)) xE.exm rfl rfl rfl rfl rfl rfl) tb__law_one_right hcd (tm__law_one_right K) hu__law_one_right (by rfl) hg (hr.mono (by decide)) (lamS_by (sc := defScope s__law_one_right) (by decide +kernel)) rfl (fun _ _ _ _ _ => rfl) (fun A outer s H E f c' hgL hrL => (pe_fn h_parse_counts pb_parse_counts (hrL.mono (by decide)) hgL rfl (passE takesL) (pa_cons (pv 1) pa_nil)))) pa_nil)))
      (pss_cons (ps_expr (k_bm K PySem.F.plainAttrs_list PySem.F.slot_list_append PySem.F.type_list_append mt_append (pv 3) (pa_cons (pe_caught (T := tabs K) (k := 6) D__law_caught sc__law_caught pb__law_caught (Or.inl rfl) rfl (fun cdv => caught_gives (hr.mono (by decide)) hg h__law_kind h__law_fields pb__law_kind pb__law_fields (xE.glo _ (by decide +kernel)) (xE.glo _ (by decide +kernel)) (xE.glo _ (by decide +kernel)) xE.exm rfl rfl rfl rfl rfl rfl) tb__law_one_right hcd (tm__law_one_right K) hu__law_one_right (by rfl) hg (hr.mono (by decide)) (lamS_by (sc := defScope s__law_one_right) (by decide +kernel)) rfl (fun _ _ _ _ _ => rfl) (fun A outer s H E f c' hgL hrL => (pe_fnK0 h_parse_counts kb_parse_counts_0_text kb_parse_counts_0_text_r (hrL.mono (by decide)) hgL rfl (passE takesL) (pk_cons (pv 1) pk_nil)))) pa_nil)))
      (pss_cons (ps_set (i := 4) nd rfl (Or.inl rfl) (pe_ifExp (pt_cmpR o_isN (pv 2) pe_non (nomark _)) (pe_lst (pa_cons pe_str (pa_cons (pv 1) pa_nil))) (pe_lst (pa_cons pe_str (pa_cons (pv 2) pa_nil)))))
      (pss_cons (ps_if (pt_cmpR op_ne (pe_callB (k_repr K hg hr.units) rfl fr.repr_ (by decide +kernel) (pa_cons (pv 3) pa_nil)) (pe_callB (k_repr K hg hr.units) rfl fr.repr_ (by decide +kernel) (pa_cons (pe_lst (pa_cons (pv 4) (pa_cons (pv 4) pa_nil))) pa_nil)) (nomark _)) (pss_one (ps_ret pe_bl)) pss_nil)
      (pss_cons (ps_for PassesOwn.never rfl (k_iList K (pv 0)) (pg_name (i := 5) nd rfl (Or.inr rfl))
        (pss_cons (ps_set (i := 3) nd rfl (Or.inl rfl) (pe_lst (pa_cons (pe_caught (T := tabs K) (k := 8) D__law_caught sc__law_caught pb__law_caught (Or.inl rfl) rfl (fun cdv => caught_gives (hr.mono (by decide)) hg h__law_kind h__law_fields pb__law_kind pb__law_fields (xE.glo _ (by decide +kernel)) (xE.glo _ (by decide +kernel)) (xE.glo _ (by decide +kernel)) xE.exm rfl rfl rfl rfl rfl rfl) tb__law_one_right hcd (tm__law_one_right K) hu__law_one_right (by rfl) hg (hr.mono (by decide)) (lamS_by (sc := defScope s__law_one_right) (by decide +kernel)) rfl (fun _ _ _ _ _ => rfl) (fun A outer s H E f c' hgL hrL => (pe_fn h_parse_summary pb_parse_summary (hrL.mono (by decide)) hgL rfl (passE takesL) (pa_cons (pv 5) (pa_cons (pv 1) pa_nil))))) pa_nil)))
      (pss_cons (ps_expr (k_bm K PySem.F.plainAttrs_list PySem.F.slot_list_append PySem.F.type_list_append mt_append (pv 3) (pa_cons (pe_caught (T := tabs K) (k := 8) D__law_caught sc__law_caught pb__law_caught (Or.inl rfl) rfl (fun cdv => caught_gives (hr.mono (by decide)) hg h__law_kind h__law_fields pb__law_kind pb__law_fields (xE.glo _ (by decide +kernel)) (xE.glo _ (by decide +kernel)) (xE.glo _ (by decide +kernel)) xE.exm rfl rfl rfl rfl rfl rfl) tb__law_one_right hcd (tm__law_one_right K) hu__law_one_right (by rfl) hg (hr.mono (by decide)) (lamS_by (sc := defScope s__law_one_right) (by decide +kernel)) rfl (fun _ _ _ _ _ => rfl) (fun A outer s H E f c' hgL hrL => (pe_fnK0 h_parse_summary kb_parse_summary_0_text_capacity kb_parse_summary_0_text_capacity_r (hrL.mono (by decide)) hgL rfl (passE takesL) (pk_cons (pv 1) (pk_cons (pv 5) pk_nil))))) pa_nil)))
      (pss_one (ps_for PassesOwn.never rfl (k_iList K (pv 3)) (pg_name (i := 6) nd rfl (Or.inl rfl))
        (pss_one (ps_if (PW.pt (pw_or (pt_cmpR o_isN (pv 2) pe_non (nomark _)) (pw_or1 (pt_cmpR op_gt (pe_callB (k_len K) rfl fr.len_ (by decide +kernel) (pa_cons (pv 2) pa_nil)) (pv 5) (nomark _))))) (pss_one (ps_if (pt_cmpR op_ne (pe_callB (k_repr K hg hr.units) rfl fr.repr_ (by decide +kernel) (pa_cons (pv 6) pa_nil)) (pe_callB (k_repr K hg hr.units) rfl fr.repr_ (by decide +kernel) (pa_cons (pe_lst (pa_cons pe_str (pa_cons (pv 1) pa_nil))) pa_nil)) (nomark _)) (pss_one (ps_ret pe_bl)) pss_nil)) (pss_one (ps_if (PW.pt (pw_or (pt_cmpR op_ne (pe_ix (k_ixL K) (pv 6) pe_int (fun _ _ => rfl)) pe_str (nomark _)) (pw_or1 (pt_not (pt_val (pe_callB (k_isi K) rfl fr.isinstance_ (by decide +kernel) (pa_cons (pe_ix (k_ixL K) (pv 6) pe_int (fun _ _ => rfl)) (pa_cons (pe_glob (v := .ref (He.ga K "Summary")) rfl cl_Summary.glo rfl) pa_nil)))))))) (pss_one (ps_ret pe_bl)) (pss_one (ps_if (pt_cmpR op_ne (pe_callB (k_repr K hg hr.units) rfl fr.repr_ (by decide +kernel) (pa_cons (pe_lst (pa_cons (k_fld K (pe_ix (k_ixL K) (pv 6) pe_int (fun _ _ => rfl)) rfl) (pa_cons (k_fld K (pe_ix (k_ixL K) (pv 6) pe_int (fun _ _ => rfl)) rfl) pa_nil))) pa_nil)) (pe_callB (k_repr K hg hr.units) rfl fr.repr_ (by decide +kernel) (pa_cons (pe_lst (pa_cons (pv 5) (pa_cons (pv 2) pa_nil))) pa_nil)) (nomark _)) (pss_one (ps_ret pe_bl)) pss_nil)))))))))))
      (pss_one (ps_ret pe_bl)))))))), ?_⟩
    try dsimp only [cxOf]
    have est : ∀ a0 a1 : V, L2.start N__law_one_right [a0, a1] = [some a0, some a1, none, none, none, none, none] := fun _ _ => rfl
    simp only [est]
    clear est
    obtain ⟨wd0, yd0, hfl, hsw, hw0, hw1⟩ := due_row ht
    have hdt : txtD (.str t) := ⟨by have := ht.len; omega, ht.dig.mono (by decide)⟩
    tm_at "vq"
    with_reducible refine w_cut (fun σ H' => ∃ D, σ = [some (.ref a), some (.str t), some D, none, none, none, none] ∧ Same H H' ∧ DueV K H' D t) ?_ ?_
    rotate_left
    · intro kE
      tm_at "vq"
      refine ⟨t, rfl, hdt.1, hdt.2, fun ps hps D H1 s1 hD => ?_, fun hn H1 s1 => ?_⟩
      · tm_at "vq"
        exact kE _ _ ⟨_, rfl, s1, .inr ⟨ps, hps, hD⟩⟩
      · tm_at "vq"
        exact kE _ _ ⟨_, rfl, s1, .inl ⟨hn, rfl⟩⟩
    rintro σ H1 ⟨D, rfl, s1, hD⟩
    have hs1 : SqL K H1 a (ns.map V.int) := s1.seq hs
    have T1 := hT0.ext s1
    have hcall : ∀ (Hq : Hp) (Q' : VK), Tabs (tabs K) Hq → (∀ l y' H', ExtN Hq H' → Tabs (tabs K) H' → H' l = some (.lst [.str wd0, y']) → Dp K H' y' yd0 → Q' (.ref l) H') → ∃ (v : V) (d : PyData), [V.str t] = [v] ∧ Ax K Hq v d ∧ txtD d ∧ (∀ ps, cntD 12 d = some ps → ∀ v' H', Same Hq H' → Dp K H' v' (bagD ps) → LstC [.str "returned", v'] H' Q') ∧ (cntD 12 d = none → ∀ dd H', Same Hq H' → H' dd = some (.xd [("text", v)]) → CaughtC K (.ref (He.ga K "InvalidText")) (some dd) H' Q') := fun Hq Q' Tq hQ => by
      refine ⟨_, _, rfl, .inl (.str _), hdt, fun qs e v' H' s hv => ?_, fun e dd H' s hdd => ?_⟩
      · obtain ⟨rfl, rfl⟩ := hw1 qs e
        exact w_told fun l Ht st hlt => hQ l _ Ht (ExtN.of (s.trans st)) (Tq.ext (s.trans st)) hlt (dp_same st hv)
      · obtain ⟨rfl, rfl⟩ := hw0 e
        exact w_held (C := "InvalidText") (f := "text") (wd := "text") (by decide +kernel) hdd fun l Ht st hl' => hQ l _ Ht (ExtN.of (s.trans st)) (Tq.ext (s.trans st)) hl' (.str _)
    tm_at "vp"
    refine w_caughtR wd0 (fun y' H' => Dp K H' y' yd0) T1 (fun l1 y1 H6 x6 T6 hl1 hy1 => ?_) (fun Hq xq Tq Q' hQ => ?_)
    rotate_left
    · tm_at "vp"
      exact hcall Hq Q' Tq fun l y' H' x' T' h1 h2 => hQ l y' H' (xq.trans x') T' h1 h2
    tm_at "vp"
    rename_i R hR
    have f1 : l1 ≠ R := fun z => by rw [z, hR] at hl1; cases hl1
    have x06 := x6.trans (ExtN.of (same_new hR (u := HO.lst [.ref l1])))
    have hR7 := @upd_same H6 R (HO.lst [.ref l1])
    have hl7 := hp_new hl1 hR (u := HO.lst [.ref l1])
    have hy7 := dp_same (same_new hR (u := HO.lst [.ref l1])) hy1
    have T7 := T6.ext (same_new hR (u := HO.lst [.ref l1]))
    generalize upd H6 R (HO.lst [.ref l1]) = H7 at *
    refine w_tyL hR7 ?_
    tm_at "vp"
    refine w_caughtR wd0 (fun y' H' => Dp K H' y' yd0) T7 (fun l2 y2 H8 x8 T8 hl2 hy2 => ?_) (fun Hq xq Tq Q' hQ => ?_)
    rotate_left
    · tm_at "vp"
      exact hcall Hq Q' Tq fun l y' H' x' T' h1 h2 => hQ l y' H' (xq.trans x') T' h1 h2
    have hR8 := lst_x x8 hR7
    have f2 : l2 ≠ R := fun z => by rw [z, hR8] at hl2; cases hl2
    tm_at "vq"
    refine w_append hR8 (by have := sizeLine_eq; show 1 < sizeLine; omega) ?_
    have x9 := x_mut2 (o := HO.lst ([.ref l1] ++ [.ref l2])) (x06.trans x8) x6 hR
    have hl19 : (upd H8 R (HO.lst ([.ref l1] ++ [.ref l2]))) l1 = _ := (upd_ne f1).trans (lst_x x8 hl7)
    have hl29 : (upd H8 R (HO.lst ([.ref l1] ++ [.ref l2]))) l2 = _ := (upd_ne f2).trans hl2
    have T9 := tabs_upd (ys := [.ref l1] ++ [.ref l2]) T8 hR8
    have hR9 := @upd_same H8 R (HO.lst ([.ref l1] ++ [.ref l2]))
    have st9 : SameT H8 (upd H8 R (HO.lst ([.ref l1] ++ [.ref l2]))) := SameT.lst hR8
    have hy19 := dp_flat st9 (dp_x x8 hy7) hfl
    have hy29 := dp_flat st9 hy2 hfl
    have hD9 := (hD.x (x06.trans x8)).flat st9
    have hs9 : SqL K (upd H8 R (HO.lst ([.ref l1] ++ [.ref l2]))) a (ns.map V.int) := sql_x x9 hs1
    generalize upd H8 R (HO.lst ([.ref l1] ++ [.ref l2])) = H9 at *
    clear hcall x8 T8 hl2 hy2 hR8 hl7 hy7 T7 hR7 x06 hR f1 f2 hl1 hy1 T6 x6 T1 hD hs1
    tm_at "vq"
    with_reducible refine w_cut (fun σ H' => ∃ W y, σ = [some (.ref a), some (.str t), some D, some (.ref R), some (.ref W), none, none] ∧ Same H9 H' ∧ H' W = some (.lst [.str wd0, y]) ∧ Dp K H' y yd0) ?_ ?_
    rotate_left
    · intro kE
      rcases hD9 with ⟨hn, rfl⟩ | ⟨ps, hps, hdp⟩
      · obtain ⟨rfl, rfl⟩ := hw0 hn
        tm_at "vq"
        rename_i L hL
        exact kE _ _ ⟨L, _, rfl, same_new hL, upd_same, .str _⟩
      · obtain ⟨rfl, rfl⟩ := hw1 ps hps
        obtain ⟨va, vxs, rfl, hvs, hvx, hvl⟩ := bag_inv hdp
        tm_at "vq"
        rename_i L hL
        exact kE _ _ ⟨L, _, rfl, same_new hL, upd_same, dp_same (same_new hL) hdp⟩
    rintro σ H10 ⟨W, y, rfl, s10, hW10, hy10⟩
    have hR10 := s10 _ _ hR9
    have hl110 := s10 _ _ hl19
    have hl210 := s10 _ _ hl29
    have hy110 := dp_same s10 hy19
    have hy210 := dp_same s10 hy29
    tm_at "vp"
    refine w_repr (d := .list [.list [.str wd0, yd0], .list [.str wd0, yd0]]) (.lst (SqL.of hR10) (.cons (.lst (SqL.of hl110) (.cons (.str _) (.cons hy110 .nil))) (.cons (.lst (SqL.of hl210) (.cons (.str _) (.cons hy210 .nil))) .nil))) hsw ?_
    tm_at "vp"
    rename_i C hC
    have hWC := hp_new hW10 hC (u := HO.lst [V.ref W, .ref W])
    have hyC := dp_same (same_new hC (u := HO.lst [V.ref W, .ref W])) hy10
    refine w_repr (d := .list [.list [.str wd0, yd0], .list [.str wd0, yd0]]) (.lst (SqL.of upd_same) (.cons (.lst (SqL.of hWC) (.cons (.str _) (.cons hyC .nil))) (.cons (.lst (SqL.of hWC) (.cons (.str _) (.cons hyC .nil))) .nil))) hsw ?_
    tm_at "vp"
    rw [decide_eq_true rfl]
    refine w_iteF ?_
    tm_at "vp"
    have sC := s10.trans (same_new hC (u := HO.lst [V.ref W, .ref W]))
    have x11 := x9.trans (ExtN.of sC)
    have T11 := T9.ext sC
    have hs11 := sC.seq hs9
    have hD11 := hD9.same sC
    generalize upd H10 C (HO.lst [V.ref W, .ref W]) = H11 at *
    clear hWC hyC hR10 hl110 hl210 hy110 hy210 hC s10 hW10 hy10 sC hD9 hs9 hy19 hy29 st9 hR9 T9 hl19 hl29 x9
    have x011 := (ExtN.of s1).trans x11
    have hsh : Shows (.list [.str "text", .str t]) := by
      obtain ⟨b1, b2, b3⟩ := txt_show3 ht
      exact shows_l2 (by decide +kernel) b1 (by
        have : rb (.str "text") ≤ 100 := by decide +kernel
        omega) (by decide +kernel) (by omega)
    refine w_onL hs11 ?_
    refine for_go (walk_list (xs := ns.map V.int)) (fun i σ H' => ∃ u3 u5 u6, σ = [some (.ref a), some (.str t), some D, u3, some (.ref W), u5, u6] ∧ ExtN H11 H' ∧ Tabs (tabs K) H') ⟨_, _, _, rfl, ExtN.refl _, T11⟩ (fun i σ H' _ ⟨_, _, _, _, x, _⟩ => sql_x x hs11) ?_ ?_
    rotate_left
    · rintro σ Hw ⟨u3, u5, u6, rfl, xw, Tw⟩
      dsimp only
      tm_at "vp"
      exact k _ (x011.trans xw) Tw
    rintro i y9 σ Ha Hb hi ⟨u3, u5, u6, rfl, xb, Tb⟩ ⟨rfl, hy9⟩
    obtain ⟨w, hwm, rfl⟩ : ∃ w, w ∈ ns ∧ y9 = .int w := by
      rw [List.getElem?_map] at hy9
      obtain ⟨j, e1, e2⟩ := Option.map_eq_some_iff.mp hy9
      exact ⟨j, List.mem_of_getElem? e1, e2.symm⟩
    obtain ⟨w1, w8⟩ := hns w hwm
    refine w_gname ?_
    simp only [List.set_cons_zero, List.set_cons_succ]
    have hDb := hD11.x xb
    obtain ⟨wd, hw1w, hw0w⟩ : ∃ wd : Str, (∀ ps, cntT w t = some ps → wd = "returned") ∧ (cntT w t = none → wd = "text") := by
      cases cntT w t with
      | none => exact ⟨"text", nofun, fun _ => rfl⟩
      | some ps => exact ⟨"returned", fun _ _ => rfl, nofun⟩
    have hcall : ∀ (Hq : Hp) (Q' : VK), Tabs (tabs K) Hq → (∀ l y' H', ExtN Hq H' → Tabs (tabs K) H' → H' l = some (.lst [.str wd, y']) → ((∀ ps, cntT w t = some ps → SumO K H' y' w ps) ∧ (cntT w t = none → y' = .str t)) → Q' (.ref l) H') → ∃ (v1 v : V) (d1 d : PyData), [V.int w, V.str t] = [v1, v] ∧ Dx K Hq v1 d1 ∧ Ax K Hq v d ∧ txtD d ∧ (betD d1 1 8 = false → ∀ dd H', Same Hq H' → H' dd = some (.xd [("capacity", v1)]) → CaughtC K (.ref (He.ga K "InvalidCapacity")) (some dd) H' Q') ∧ (∀ c, d1 = .int c → 1 ≤ c → c ≤ 8 → (∀ ps, cntD c d = some ps → ∀ v' H', Same Hq H' → SumO K H' v' c ps → LstC [.str "returned", v'] H' Q') ∧ (cntD c d = none → ∀ dd H', Same Hq H' → H' dd = some (.xd [("text", v)]) → CaughtC K (.ref (He.ga K "InvalidText")) (some dd) H' Q')) := fun Hq Q' Tq hQ => by
      refine ⟨_, _, _, _, rfl, .int w, .inl (.str _), hdt, fun hb => ?_, fun c e _ _ => ?_⟩
      · exfalso
        have : (decide (1 ≤ w) && decide (w ≤ 8)) = false := hb
        rw [decide_eq_true w1, decide_eq_true w8] at this
        cases this
      cases e
      refine ⟨fun qs e v' H' s hv => ?_, fun e dd H' s hdd => ?_⟩
      · have ew := hw1w qs e
        subst ew
        exact w_told fun l Ht st hlt => hQ l _ Ht (ExtN.of (s.trans st)) (Tq.ext (s.trans st)) hlt ⟨(fun ps e2 => by
          have e : cntT w t = some qs := e
          rw [e] at e2
          cases e2
          exact sum_same st hv), (fun z => by
          have e : cntT w t = some qs := e
          rw [e] at z; cases z)⟩
      · have ew := hw0w e
        subst ew
        exact w_held (C := "InvalidText") (f := "text") (wd := "text") (by decide +kernel) hdd fun l Ht st hl' => hQ l _ Ht (ExtN.of (s.trans st)) (Tq.ext (s.trans st)) hl' ⟨(fun ps z => by
          have e : cntT w t = none := e
          rw [e] at z; cases z), fun _ => rfl⟩
    tm_at "vp"
    refine w_caughtR wd (fun y' H' => (∀ ps, cntT w t = some ps → SumO K H' y' w ps) ∧ (cntT w t = none → y' = .str t)) Tb (fun l1 y1 H6 x6 T6 hl1 hy1 => ?_) (fun Hq xq Tq Q' hQ => ?_)
    rotate_left
    · tm_at "vp"
      exact hcall Hq Q' Tq fun l y' H' x' T' h1 h2 => hQ l y' H' (xq.trans x') T' h1 h2
    tm_at "vp"
    rename_i R hR
    have f1 : l1 ≠ R := fun z => by rw [z, hR] at hl1; cases hl1
    have x7 := ExtN.of (same_new hR (u := HO.lst [.ref l1]))
    have hR7 := @upd_same H6 R (HO.lst [.ref l1])
    have hl7 := hp_new hl1 hR (u := HO.lst [.ref l1])
    have T7 := T6.ext (same_new hR (u := HO.lst [.ref l1]))
    generalize upd H6 R (HO.lst [.ref l1]) = H7 at *
    refine w_tyL hR7 ?_
    tm_at "vp"
    refine w_caughtR wd (fun y' H' => (∀ ps, cntT w t = some ps → SumO K H' y' w ps) ∧ (cntT w t = none → y' = .str t)) T7 (fun l2 y2 H8 x8 T8 hl2 hy2 => ?_) (fun Hq xq Tq Q' hQ => ?_)
    rotate_left
    · tm_at "vp"
      exact hcall Hq Q' Tq fun l y' H' x' T' h1 h2 => hQ l y' H' (xq.trans x') T' h1 h2
    have hR8 := lst_x x8 hR7
    have f2 : l2 ≠ R := fun z => by rw [z, hR8] at hl2; cases hl2
    tm_at "vp"
    refine w_append hR8 (by have := sizeLine_eq; show 1 < sizeLine; omega) ?_
    have x9 := x_mut2 (o := HO.lst ([.ref l1] ++ [.ref l2])) ((x6.trans x7).trans x8) x6 hR
    have x69 := x_mut2 (o := HO.lst ([.ref l1] ++ [.ref l2])) (x7.trans x8) (ExtN.refl H6) hR
    have hl19 : (upd H8 R (HO.lst ([.ref l1] ++ [.ref l2]))) l1 = _ := (upd_ne f1).trans (lst_x x8 hl7)
    have hl29 : (upd H8 R (HO.lst ([.ref l1] ++ [.ref l2]))) l2 = _ := (upd_ne f2).trans hl2
    have T9 := tabs_upd (ys := [.ref l1] ++ [.ref l2]) T8 hR8
    have hR9 := @upd_same H8 R (HO.lst ([.ref l1] ++ [.ref l2]))
    have hy19 : (∀ ps, cntT w t = some ps → SumO K (upd H8 R (HO.lst ([.ref l1] ++ [.ref l2]))) y1 w ps) ∧ (cntT w t = none → y1 = .str t) := ⟨fun ps z => sum_x x69 (hy1.1 ps z), hy1.2⟩
    have hy29 : (∀ ps, cntT w t = some ps → SumO K (upd H8 R (HO.lst ([.ref l1] ++ [.ref l2]))) y2 w ps) ∧ (cntT w t = none → y2 = .str t) := ⟨fun ps z => sum_lst hR8 (hy2.1 ps z), hy2.2⟩
    generalize upd H8 R (HO.lst ([.ref l1] ++ [.ref l2])) = H9 at *
    have hD9 := hDb.x x9
    have xb9 := xb.trans x9
    clear hcall x69 x9 x8 T8 hl2 hy2 hR8 hl7 T7 hR7 x7 hR f1 f2 hl1 hy1 T6 x6 Tb xb hDb
    tm_at "vp"
    refine w_onL (SqL.of hR9) ?_
    refine for_go (walk_list (xs := [V.ref l1] ++ [.ref l2])) (fun i σ H' => ∃ u6, σ = [some (.ref a), some (.str t), some D, some (.ref R), some (.ref W), some (.int w), u6] ∧ Same H9 H') ⟨_, rfl, Same.refl _⟩ (fun i σ H' _ ⟨_, _, s⟩ => SqL.of (s _ _ hR9)) ?_ ?_
    rotate_left
    · rintro σ Hz ⟨_, rfl, s9⟩
      exact ⟨_, _, _, rfl, xb9.trans (ExtN.of s9), T9.ext s9⟩
    rintro i2 y σ Ha' Hi hi2 ⟨u6, rfl, sa⟩ ⟨rfl, hy⟩
    obtain ⟨l, y', rfl, hl', hy'⟩ : ∃ l y', y = .ref l ∧ H9 l = some (.lst [.str wd, y']) ∧ ((∀ ps, cntT w t = some ps → SumO K H9 y' w ps) ∧ (cntT w t = none → y' = .str t)) := by
      match i2, hi2 with
      | 0, _ => cases hy; exact ⟨_, _, rfl, hl19, hy19⟩
      | 1, _ => cases hy; exact ⟨_, _, rfl, hl29, hy29⟩
    have hla := sa _ _ hl'
    refine w_gname ?_
    simp only [List.set_cons_zero, List.set_cons_succ]
    rcases hD9.same sa with ⟨hn, rfl⟩ | ⟨ps, hps, hdp⟩
    · tm_at "vp"
      have hcn : cntT w t = none := cntT_none hn (by omega)
      have ey := hy'.2 hcn
      have ew := hw0w hcn
      subst ey
      subst ew
      tm_at "vp"
      refine w_repr (d := .list [.str "text", .str t]) (.lst (SqL.of hla) (.cons (.str _) (.cons (.str _) .nil))) hsh ?_
      tm_at "vp"
      rename_i L hL
      refine w_repr (d := .list [.str "text", .str t]) (.lst (SqL.of upd_same) (.cons (.str _) (.cons (.str _) .nil))) hsh ?_
      tm_at "vp"
      rw [decide_eq_true rfl]
      tm_at "vp"
      exact ⟨_, rfl, same_step sa hL⟩
    obtain ⟨va, vxs, rfl, hvs, hvx, hvl⟩ := bag_inv hdp
    tm_at "vp"
    refine w_lenT hvs ?_
    rw [hvl]
    tm_at "vp"
    refine w_ited (fun h => ?_) (fun h => ?_)
    · have hcn : cntT w t = none := cntT_gt hps (by omega) h
      have ey := hy'.2 hcn
      have ew := hw0w hcn
      subst ey
      subst ew
      tm_at "vp"
      refine w_repr (d := .list [.str "text", .str t]) (.lst (SqL.of hla) (.cons (.str _) (.cons (.str _) .nil))) hsh ?_
      tm_at "vp"
      rename_i L hL
      refine w_repr (d := .list [.str "text", .str t]) (.lst (SqL.of upd_same) (.cons (.str _) (.cons (.str _) .nil))) hsh ?_
      tm_at "vp"
      rw [decide_eq_true rfl]
      tm_at "vp"
      exact ⟨_, rfl, same_step sa hL⟩
    have hcs : cntT w t = some ps := cntT_le hps (by omega)
    have ho' := sum_same sa (hy'.1 ps hcs)
    have ew := hw1w ps hcs
    subst ew
    obtain ⟨hbs, hbo, hb12, hb60⟩ := due_bag ht hps
    tm_at "vp"
    refine w_ixL (SqL.of hla) (v := .str "returned") rfl ?_
    tm_at "vp"
    rw [decide_eq_true rfl]
    tm_at "vp"
    refine w_ixL (SqL.of hla) (v := y') rfl ?_
    tm_at "vp"
    refine w_isSum cl_Summary ho' ?_
    tm_at "vp"
    refine w_ixL (SqL.of hla) (v := y') rfl ?_
    tm_at "vp"
    refine w_sumCap cl_Summary ho' ?_
    tm_at "vp"
    refine w_ixL (SqL.of hla) (v := y') rfl ?_
    tm_at "vp"
    refine w_sumCnt cl_Summary ho' fun bb hbb => ?_
    tm_at "vp"
    rename_i L hL
    obtain ⟨b1, b2, b3⟩ := bag_show3 hbs
    have hsi : Shows (.list [.int w, bagD ps]) := shows_l2 (decide_eq_true (log2_le w (by omega) (Int.le_trans w8 (by decide)))) b1 (by
      show 1921 + rb (bagD ps) ≤ _
      omega) (by show 0 ≤ 58; decide) (by omega)
    refine w_repr (d := .list [.int w, bagD ps]) (.lst (SqL.of upd_same) (.cons (.int _) (.cons (dp_same (same_new hL) hbb) .nil))) hsi ?_
    tm_at "vp"
    rename_i M hM
    refine w_repr (d := .list [.int w, bagD ps]) (.lst (SqL.of upd_same) (.cons (.int _) (.cons (dp_same ((same_new hL (u := HO.lst [.int w, bb])).trans (same_new hM)) hdp) .nil))) hsi ?_
    tm_at "vp"
    rw [decide_eq_true rfl]
    tm_at "vp"
    exact ⟨_, rfl, sa.trans ((same_new hL).trans (same_new hM))⟩
theorem ok__law_by_hand {P : Program} {w : World} {K : PySem.W.Frag} {mg : Str → Option Value} {base : Heap} (fr : Fre mg) (D : Dfd K mg "_law_by_hand" s__law_by_hand) : Has P w K mg base CX0 1 "_law_by_hand" s__law_by_hand [] (sp__law_by_hand K) := by
  refine D.has sc__law_by_hand (fun vs H Q E h => ?_) (fun cdv A outer s H vs Q E hr hg h => ?_)
  · obtain ⟨rfl, _⟩ := h; rfl
  · obtain ⟨rfl, k⟩ := h
    have nd := sc__law_by_hand.nd
    refine ⟨_, PSs.nox (pss_cons (ps_set (i := 0) nd rfl (Or.inl rfl) (pe_lst (pa_cons pe_str (pa_cons pe_str (pa_cons pe_str (pa_cons pe_str (pa_cons pe_str (pa_cons pe_str (pa_cons pe_str (pa_cons pe_str (pa_cons pe_str (pa_cons pe_str (pa_cons pe_str (pa_cons pe_str (pa_cons pe_str (pa_cons pe_str pa_nil))))))))))))))))
      (pss_cons (ps_set (i := 0) nd rfl (Or.inl rfl) (pe_op op_cat (pv 0) (pe_lst (pa_cons pe_str (pa_cons pe_str (pa_cons pe_str (pa_cons pe_str pa_nil)))))))
      (pss_cons (ps_set (i := 0) nd rfl (Or.inl rfl) (pe_op op_cat (pv 0) (pe_lst (pa_cons pe_str (pa_cons pe_str (pa_cons pe_str (pa_cons pe_str (pa_cons pe_str (pa_cons pe_str (pa_cons pe_str pa_nil))))))))))
      (pss_cons (ps_set (i := 0) nd rfl (Or.inl rfl) (pe_op op_cat (pv 0) (pe_lst (pa_cons pe_str (pa_cons pe_str (pa_cons pe_str (pa_cons pe_str pa_nil)))))))
      (pss_cons (ps_set (i := 0) nd rfl (Or.inl rfl) (pe_op op_cat (pv 0) (pe_lst (pa_cons pe_str (pa_cons pe_str (pa_cons pe_str (pa_cons pe_str (pa_cons pe_str (pa_cons pe_str (pa_cons pe_str (pa_cons pe_str (pa_cons pe_str (pa_cons pe_str pa_nil)))))))))))))
      (pss_cons (ps_set (i := 0) nd rfl (Or.inl rfl) (pe_op op_cat (pv 0) (pe_lst (pa_cons pe_str (pa_cons pe_str (pa_cons pe_str pa_nil))))))
      (pss_cons (ps_set (i := 0) nd rfl (Or.inl rfl) (pe_op op_cat (pv 0) (pe_lst (pa_cons pe_str (pa_cons pe_str (pa_cons pe_str (pa_cons pe_str (pa_cons pe_str (pa_cons pe_str (pa_cons pe_str (pa_cons pe_str pa_nil)))))))))))
      (pss_cons (ps_set (i := 0) nd rfl (Or.inl rfl) (pe_op op_cat (pv 0) (pe_lst (pa_cons (pe_op o_addS pe_str (pe_op o_mulS pe_str pe_int)) (pa_cons (pe_op o_addS pe_str (pe_op o_mulS pe_str pe_int)) (pa_cons pe_str (pa_cons pe_str pa_nil)))))))
      (pss_cons (ps_set (i := 1) nd rfl (Or.inr rfl) (pe_lc (own := [("_law_letter", 2)]) (g := gName 2) (tt := tYes) rfl nd (pi_str pe_str) (blkOk_by (own := [("_law_letter", 2)]) (N := N__law_by_hand) (sc := defScope s__law_by_hand) (by decide +kernel)) (fun _ _ _ _ _ => (pg_name (i := 2) nd rfl (Or.inl rfl))) (fun _ _ _ _ _ => pts_nil) (fun _ _ _ _ _ => (pe_op o_addS (pv 2) pe_str))))
      (pss_one (ps_ret (pe_op op_cat (pv 0) (pe_lc (own := [("_law_size", 3)]) (g := gName 3) (tt := tYes) rfl nd (k_iList K (pe_lst (pa_cons pe_int (pa_cons pe_int (pa_cons pe_int (pa_cons pe_int (pa_cons pe_int (pa_cons pe_int (pa_cons pe_int (pa_cons pe_int pa_nil)))))))))) (blkOk_by (own := [("_law_size", 3)]) (N := N__law_by_hand) (sc := defScope s__law_by_hand) (by decide +kernel)) (fun _ _ _ _ _ => (pg_name (i := 3) nd rfl (Or.inl rfl))) (fun _ _ _ _ _ => pts_nil) (fun _ _ _ _ _ => (k_join K pe_str (pe_slice (k_slL K) (pv 1) po_none (po_some (pv 3)))))))))))))))))), ?_⟩
    try dsimp only [cxOf]
    have est : L2.start N__law_by_hand [] = [none, none, none, none] := rfl
    simp only [est]
    clear est
    tm_at "vq"
    refine gl_asg (K := K) (ds := hn1.map .str) (by tm_at "gd") fun l1 xs1 H1 s1 hl1 hx1 => ?_
    tm_at "vq"
    refine gl_asg (K := K) (ds := hn1.map .str ++ hn2.map .str) (gl_cat (gl_var (by with_unfolding_all exact rfl) hl1 hx1) (by tm_at "gd") rfl) fun l2 xs2 H2 s2 hl2 hx2 => ?_
    tm_at "vq"
    refine gl_asg (K := K) (ds := (hn1.map .str ++ hn2.map .str) ++ hn3.map .str) (gl_cat (gl_var (by with_unfolding_all exact rfl) hl2 hx2) (by tm_at "gd") rfl) fun l3 xs3 H3 s3 hl3 hx3 => ?_
    tm_at "vq"
    refine gl_asg (K := K) (ds := ((hn1.map .str ++ hn2.map .str) ++ hn3.map .str) ++ hn4.map .str) (gl_cat (gl_var (by with_unfolding_all exact rfl) hl3 hx3) (by tm_at "gd") rfl) fun l4 xs4 H4 s4 hl4 hx4 => ?_
    tm_at "vq"
    refine gl_asg (K := K) (ds := (((hn1.map .str ++ hn2.map .str) ++ hn3.map .str) ++ hn4.map .str) ++ hn5.map .str) (gl_cat (gl_var (by with_unfolding_all exact rfl) hl4 hx4) (by tm_at "gd") rfl) fun l5 xs5 H5 s5 hl5 hx5 => ?_
    tm_at "vq"
    refine gl_asg (K := K) (ds := ((((hn1.map .str ++ hn2.map .str) ++ hn3.map .str) ++ hn4.map .str) ++ hn5.map .str) ++ hn6.map .str) (gl_cat (gl_var (by with_unfolding_all exact rfl) hl5 hx5) (by tm_at "gd") rfl) fun l6 xs6 H6 s6 hl6 hx6 => ?_
    tm_at "vq"
    refine gl_asg (K := K) (ds := (((((hn1.map .str ++ hn2.map .str) ++ hn3.map .str) ++ hn4.map .str) ++ hn5.map .str) ++ hn6.map .str) ++ hn7.map .str) (gl_cat (gl_var (by with_unfolding_all exact rfl) hl6 hx6) (by tm_at "gd") rfl) fun l7 xs7 H7 s7 hl7 hx7 => ?_
    tm_at "vq"
    refine gl_asg (K := K) (ds := ((((((hn1.map .str ++ hn2.map .str) ++ hn3.map .str) ++ hn4.map .str) ++ hn5.map .str) ++ hn6.map .str) ++ hn7.map .str) ++ hn8.map .str) (gl_cat (gl_var (by with_unfolding_all exact rfl) hl7 hx7) (gl_lst (ga_cons (gd_addS gd_str (gd_mulS (n := 59) (by decide +kernel) (by decide)) (by decide +kernel)) (ga_cons (gd_addS gd_str (gd_mulS (n := 59) (by decide +kernel) (by decide)) (by decide +kernel)) (ga_cons gd_str (ga_cons gd_str ga_nil)))) rfl) rfl) fun l8 xs8 H8 s8 hl8 hx8 => ?_
    have s08 := s1.trans (s2.trans (s3.trans (s4.trans (s5.trans (s6.trans (s7.trans s8))))))
    have ex8 : xs8 = hnA.map V.str := dxs_strs (by unfold hnA; simp only [List.map_append]; exact hx8)
    subst ex8
    clear hx1 hx2 hx3 hx4 hx5 hx6 hx7 hx8 hl1 hl2 hl3 hl4 hl5 hl6 hl7 s1 s2 s3 s4 s5 s6 s7 s8
    simp only [List.set_cons_zero, List.set_cons_succ]
    tm_at "vp"
    intro D hD
    refine lc_map walk_str (by rw [abcp.1]; decide) (fun i y => y = .str ((⟨#[97 + i]⟩ : Str) ++ (":1" : Str))) hD (fun _ _ => trivial) ?_ ?_ mono_gname
    · rintro i y G1 G2 hi sg ⟨rfl, c, hc, rfl⟩ Qy hq
      rw [abcp.1] at hi
      rw [abcp.2 i hi] at hc
      cases hc
      refine w_gname ⟨rfl, ?_⟩
      tm_at "vp"
      exact w_addS (sz_le (by show 1 + Str.length (":1" : Str) ≤ _; decide +kernel)) (hq _ _ (Same.refl _) rfl)
    intro acc H9 s9 _ hacc hal hf
    have ea : acc = hn12.map V.str := by
      unfold hn12
      rw [List.map_map]
      refine acc_map (by rw [hal, abcp.1]; rfl) fun i y e => ?_
      obtain ⟨h3, _⟩ := List.getElem?_eq_some_iff.mp e
      exact ⟨i, List.getElem?_range (by rw [hal, abcp.1] at h3; exact h3), hf i y e⟩
    subst ea
    clear hal hf hD
    have hl9 := s9 _ _ hl8
    have s09 := s08.trans s9
    clear s08 s9 hl8
    simp only [List.set_cons_zero, List.set_cons_succ]
    tm_at "vp"
    rename_i S hS
    have sS := same_new hS (u := HO.lst [V.int 1, V.int 2, V.int 7, V.int 8, V.int 9, V.int 12, V.int 13, V.int 16])
    have fS : (upd H9 S (HO.lst [V.int 1, V.int 2, V.int 7, V.int 8, V.int 9, V.int 12, V.int 13, V.int 16])) S = some (HO.lst (hnS.map fun n => V.int (n : Nat))) := upd_same
    generalize upd H9 S (HO.lst [V.int 1, V.int 2, V.int 7, V.int 8, V.int 9, V.int 12, V.int 13, V.int 16]) = HA at *
    have hlA := sS _ _ hl9
    have haA := sS _ _ hacc
    have s0A := s09.trans sS
    clear sS s09 hl9 hacc hS
    refine w_onL (SqL.of fS) ?_
    intro D2 hD2
    refine lc_map (walk_list (xs := hnS.map fun n => V.int (n : Nat))) (by decide) (fun i y => ∃ n, hnS[i]? = some n ∧ y = .str (Txt.join " " (hn12.take n))) hD2 (fun _ s => SqL.of (s _ _ fS)) ?_ ?_ mono_gname
    · rintro i y G1 G2 hi sg ⟨rfl, hy⟩ Qy hq
      rw [List.getElem?_map] at hy
      obtain ⟨n, e1, rfl⟩ := Option.map_eq_some_iff.mp hy
      refine w_gname ⟨rfl, ?_⟩
      simp only [List.set_cons_zero, List.set_cons_succ]
      tm_at "vp"
      refine w_slL (SqL.of (sg _ _ haA)) fun q hq2 => ?_
      rw [cutV_take, ← List.map_take]
      tm_at "vp"
      exact w_join (SqL.of upd_same) (Nat.le_trans (hn_len n (List.mem_of_getElem? e1)) (by decide)) (hq _ _ (same_new hq2) ⟨n, e1, rfl⟩)
    intro acc3 HB sB _ hacc3 hal3 hf3
    have ea3 : acc3 = hnB.map V.str := by
      unfold hnB
      rw [List.map_map]
      refine acc_map (by rw [hal3, List.length_map]) fun i y e => ?_
      obtain ⟨n, e1, e2⟩ := hf3 i y e
      exact ⟨n, e1, e2⟩
    subst ea3
    refine w_cat (sB _ _ hlA) hacc3 (by rw [List.length_map, List.length_map]; exact sz_le (by decide +kernel)) fun p hp => ?_
    have s0p := (s0A.trans sB).trans (same_new hp (u := HO.lst (hnA.map V.str ++ hnB.map V.str)))
    refine k p (hnA ++ hnB) _ ?_ s0p (by rw [List.map_append]; exact upd_same) (fun t ht => tOkN_ok (hn_ok t ht)) (by decide +kernel)
    cases z : H p with
    | none => rfl
    | some o => rw [(s0A.trans sB) _ _ z] at hp; cases hp
theorem ok__law_others_right {P : Program} {w : World} {K : PySem.W.Frag} {mg : Str → Option Value} {base : Heap} (fr : Fre mg) (cl_Summary : ClsF K mg "Summary" ["capacity", "counts", "__bool__"]) (et_Summary___init___0 : ∀ H : Hp, SqT K H (dflA "Summary" "__init__" 0 K) []) (xE : ExF K mg) (D__law_caught : Dfd K mg "_law_caught" s__law_caught) (D : Dfd K mg "_law_others_right" s__law_others_right) (tb__law_others_right : TabB base mg (He.cT K ("_law_others_right", none)).1 (He.cT K ("_law_others_right", none)).2) (hu__law_others_right : ∀ p ∈ tabs K, p.1 = (He.cT K ("_law_others_right", none)).2 → p.2 = "_law_others_right.<locals>.<lambda>")
    (h_Summary___init__ : HasM P w K mg base (L2.CX P w) 5 "Summary" "__init__" "Summary.__init__" s_Summary___init__ [.ref (dflA "Summary" "__init__" 0 K)] ["self", "capacity", "counts"] (sp_Summary___init__ K))
    (h_Summary___repr__ : HasMA P w K mg base CX0 2 "Summary" "__repr__" "Summary.__repr__" s_Summary___repr__ [] ["self"] (sp_Summary___repr__ K))
    (h__law_kind : HasP P w K mg base 1 "_law_kind" s__law_kind ["_law_e"] (sp__law_kind K))
    (h__law_fields : HasP P w K mg base 2 "_law_fields" s__law_fields ["_law_e"] (sp__law_fields K))
    (h_parse_counts : Has P w K mg base (L2.CX P w) 6 "parse_counts" s_parse_counts ["text"] (sp_parse_counts K))
    (h_parse_summary : Has P w K mg base (L2.CX P w) 8 "parse_summary" s_parse_summary ["capacity", "text"] (sp_parse_summary K)) : Has P w K mg base CX0 11 "_law_others_right" s__law_others_right ["_law_shown_here"] (sp__law_others_right K) := by
  refine D.hasL sc__law_others_right (fun vs H Q E h => ?_) (fun cdv A outer s H vs Q E hcd hr hg h => ?_)
  · obtain ⟨t, rfl, _⟩ := h; rfl
  · obtain ⟨t, rfl, ht, hT0, k⟩ := h
    have nd := sc__law_others_right.nd
    refine ⟨_, PSs.nox (pss_cons (ps_for PassesOwn.never rfl (k_iList K (pe_lst (pa_cons pe_non (pa_cons pe_int (pa_cons pe_int (pa_cons pe_bl (pa_cons (pe_tup pa_nil) (pa_cons (pe_tup (pa_cons (pe_tup (pa_cons pe_str (pa_cons pe_int pa_nil))) pa_nil)) (pa_cons (pe_lst pa_nil) (pa_cons (pe_lst (pa_cons pe_str pa_nil)) (pa_cons (pe_lst (pa_cons (pv 0) pa_nil)) (pa_cons (pe_tup (pa_cons (pv 0) pa_nil)) (pa_cons pe_dnewK (pa_cons (pe_mk cl_Summary h_Summary___init__ bj_Summary___init___2 (hr.mono (by decide)) hg rfl (passE (E := fun _ _ _ => False) L2.takes0) (pa_cons pe_int pa_nil)) pa_nil)))))))))))))) (pg_name (i := 1) nd rfl (Or.inr rfl))
        (pss_cons (ps_if (pt_cmpR op_ne (pe_callB (k_reprB K h_Summary___repr__ bj_Summary___repr___1 (hr.mono (by decide)) hg hr.units) rfl fr.repr_ (by decide +kernel) (pa_cons (pe_caught (T := tabs K) (k := 6) D__law_caught sc__law_caught pb__law_caught (Or.inl rfl) rfl (fun cdv => caught_gives (hr.mono (by decide)) hg h__law_kind h__law_fields pb__law_kind pb__law_fields (xE.glo _ (by decide +kernel)) (xE.glo _ (by decide +kernel)) (xE.glo _ (by decide +kernel)) xE.exm rfl rfl rfl rfl rfl rfl) tb__law_others_right hcd (tm__law_others_right K) hu__law_others_right (by rfl) hg (hr.mono (by decide)) (lamS_by (sc := defScope s__law_others_right) (by decide +kernel)) rfl (fun _ _ _ _ _ => rfl) (fun A outer s H E f c' hgL hrL => (pe_fn h_parse_counts pb_parse_counts (hrL.mono (by decide)) hgL rfl (passE takesL) (pa_cons (pv 1) pa_nil)))) pa_nil)) (pe_callB (k_reprB K h_Summary___repr__ bj_Summary___repr___1 (hr.mono (by decide)) hg hr.units) rfl fr.repr_ (by decide +kernel) (pa_cons (pe_lst (pa_cons pe_str (pa_cons (pv 1) pa_nil))) pa_nil)) (nomark _)) (pss_one (ps_ret pe_bl)) pss_nil)
      (pss_one (ps_if (pt_cmpR op_ne (pe_callB (k_reprB K h_Summary___repr__ bj_Summary___repr___1 (hr.mono (by decide)) hg hr.units) rfl fr.repr_ (by decide +kernel) (pa_cons (pe_caught (T := tabs K) (k := 8) D__law_caught sc__law_caught pb__law_caught (Or.inl rfl) rfl (fun cdv => caught_gives (hr.mono (by decide)) hg h__law_kind h__law_fields pb__law_kind pb__law_fields (xE.glo _ (by decide +kernel)) (xE.glo _ (by decide +kernel)) (xE.glo _ (by decide +kernel)) xE.exm rfl rfl rfl rfl rfl rfl) tb__law_others_right hcd (tm__law_others_right K) hu__law_others_right (by rfl) hg (hr.mono (by decide)) (lamS_by (sc := defScope s__law_others_right) (by decide +kernel)) rfl (fun _ _ _ _ _ => rfl) (fun A outer s H E f c' hgL hrL => (pe_fn h_parse_summary pb_parse_summary (hrL.mono (by decide)) hgL rfl (passE takesL) (pa_cons pe_int (pa_cons (pv 1) pa_nil))))) pa_nil)) (pe_callB (k_reprB K h_Summary___repr__ bj_Summary___repr___1 (hr.mono (by decide)) hg hr.units) rfl fr.repr_ (by decide +kernel) (pa_cons (pe_lst (pa_cons pe_str (pa_cons (pv 1) pa_nil))) pa_nil)) (nomark _)) (pss_one (ps_ret pe_bl)) pss_nil))))
      (pss_cons (ps_for PassesOwn.never rfl (k_iList K (pe_lst (pa_cons pe_int (pa_cons pe_int (pa_cons (pe_un un_neg pe_int) (pa_cons pe_bl (pa_cons pe_non (pa_cons pe_str (pa_cons pe_str (pa_cons (pe_tup pa_nil) (pa_cons (pe_tup (pa_cons pe_int pa_nil)) (pa_cons (pe_lst (pa_cons pe_int pa_nil)) (pa_cons pe_dnewK (pa_cons (pe_op op_pow pe_int pe_int) (pa_cons (pv 0) pa_nil))))))))))))))) (pg_name (i := 1) nd rfl (Or.inr rfl))
        (pss_one (ps_for PassesOwn.never rfl (k_iList K (pe_lst (pa_cons (pv 0) (pa_cons pe_str (pa_cons pe_non pa_nil))))) (pg_name (i := 2) nd rfl (Or.inr rfl))
        (pss_one (ps_if (pt_cmpR op_ne (pe_callB (k_reprB K h_Summary___repr__ bj_Summary___repr___1 (hr.mono (by decide)) hg hr.units) rfl fr.repr_ (by decide +kernel) (pa_cons (pe_caught (T := tabs K) (k := 8) D__law_caught sc__law_caught pb__law_caught (Or.inl rfl) rfl (fun cdv => caught_gives (hr.mono (by decide)) hg h__law_kind h__law_fields pb__law_kind pb__law_fields (xE.glo _ (by decide +kernel)) (xE.glo _ (by decide +kernel)) (xE.glo _ (by decide +kernel)) xE.exm rfl rfl rfl rfl rfl rfl) tb__law_others_right hcd (tm__law_others_right K) hu__law_others_right (by rfl) hg (hr.mono (by decide)) (lamS_by (sc := defScope s__law_others_right) (by decide +kernel)) rfl (fun _ _ _ _ _ => rfl) (fun A outer s H E f c' hgL hrL => (pe_fn h_parse_summary pb_parse_summary (hrL.mono (by decide)) hgL rfl (passE takesL) (pa_cons (pv 1) (pa_cons (pv 2) pa_nil))))) pa_nil)) (pe_callB (k_reprB K h_Summary___repr__ bj_Summary___repr___1 (hr.mono (by decide)) hg hr.units) rfl fr.repr_ (by decide +kernel) (pa_cons (pe_lst (pa_cons pe_str (pa_cons (pv 1) pa_nil))) pa_nil)) (nomark _)) (pss_one (ps_ret pe_bl)) pss_nil)))))
      (pss_one (ps_ret pe_bl)))), ?_⟩
    try dsimp only [cxOf]
    have est : ∀ a0 : V, L2.start N__law_others_right [a0] = [some a0, none, none] := fun _ => rfl
    simp only [est]
    clear est
    have hRm : ∀ {H H' : Hp}, Same H H' → ∀ v t, OwnR K "Summary" (sp_Summary___repr__ K) [0] H v t → OwnR K "Summary" (sp_Summary___repr__ K) [0] H' v t := fun s => ownR_same s
    have l1 : Str.length ("Summary(" : Str) = 8 := by decide +kernel
    have hvt : okX (.str t) = true ∧ rbX (.str t) ≤ 15000 := by
      obtain ⟨b1, b2, b3⟩ := txt_show3 ht
      have := ht.len
      exact ⟨List.all_eq_true.mpr fun c hc => decide_eq_true (Nat.lt_of_lt_of_le (ht.asc c hc) (by decide)), by show 10 * t.length + 2 ≤ _; omega⟩
    have hv1 : SumV 1 [] := ⟨by decide, by decide, ⟨.nil, nofun, nofun⟩, by decide⟩
    have hb1 : BagS [] := nofun
    tm_at "vp"
    rename_i e0 he0 e1 he1 e2 he2 e3 he3 e4 he4 e5 he5 e6 he6 e7 he7
    have s1 : Same H (upd (upd (upd (upd (upd (upd (upd (upd H e0 (HO.tup [])) e1 (HO.tup [V.str "a", V.int 1])) e2 (HO.tup [V.ref e1])) e3 (HO.lst [])) e4 (HO.lst [V.str "a:1"])) e5 (HO.lst [V.str t])) e6 (HO.tup [V.str t])) e7 (HO.dK [])) := (((((((same_new he0).trans (same_new he1)).trans (same_new he2)).trans (same_new he3)).trans (same_new he4)).trans (same_new he5)).trans (same_new he6)).trans (same_new he7)
    have fe0 : (upd (upd (upd (upd (upd (upd (upd (upd H e0 (HO.tup [])) e1 (HO.tup [V.str "a", V.int 1])) e2 (HO.tup [V.ref e1])) e3 (HO.lst [])) e4 (HO.lst [V.str "a:1"])) e5 (HO.lst [V.str t])) e6 (HO.tup [V.str t])) e7 (HO.dK [])) e0 = some (HO.tup []) := (hp_new (hp_new (hp_new (hp_new (hp_new (hp_new (hp_new (upd_same : (upd H e0 (HO.tup [])) e0 = some (HO.tup [])) he1) he2) he3) he4) he5) he6) he7)
    have fe1 : (upd (upd (upd (upd (upd (upd (upd (upd H e0 (HO.tup [])) e1 (HO.tup [V.str "a", V.int 1])) e2 (HO.tup [V.ref e1])) e3 (HO.lst [])) e4 (HO.lst [V.str "a:1"])) e5 (HO.lst [V.str t])) e6 (HO.tup [V.str t])) e7 (HO.dK [])) e1 = some (HO.tup [V.str "a", V.int 1]) := (hp_new (hp_new (hp_new (hp_new (hp_new (hp_new (upd_same : (upd (upd H e0 (HO.tup [])) e1 (HO.tup [V.str "a", V.int 1])) e1 = some (HO.tup [V.str "a", V.int 1])) he2) he3) he4) he5) he6) he7)
    have fe2 : (upd (upd (upd (upd (upd (upd (upd (upd H e0 (HO.tup [])) e1 (HO.tup [V.str "a", V.int 1])) e2 (HO.tup [V.ref e1])) e3 (HO.lst [])) e4 (HO.lst [V.str "a:1"])) e5 (HO.lst [V.str t])) e6 (HO.tup [V.str t])) e7 (HO.dK [])) e2 = some (HO.tup [V.ref e1]) := (hp_new (hp_new (hp_new (hp_new (hp_new (upd_same : (upd (upd (upd H e0 (HO.tup [])) e1 (HO.tup [V.str "a", V.int 1])) e2 (HO.tup [V.ref e1])) e2 = some (HO.tup [V.ref e1])) he3) he4) he5) he6) he7)
    have fe3 : (upd (upd (upd (upd (upd (upd (upd (upd H e0 (HO.tup [])) e1 (HO.tup [V.str "a", V.int 1])) e2 (HO.tup [V.ref e1])) e3 (HO.lst [])) e4 (HO.lst [V.str "a:1"])) e5 (HO.lst [V.str t])) e6 (HO.tup [V.str t])) e7 (HO.dK [])) e3 = some (HO.lst []) := (hp_new (hp_new (hp_new (hp_new (upd_same : (upd (upd (upd (upd H e0 (HO.tup [])) e1 (HO.tup [V.str "a", V.int 1])) e2 (HO.tup [V.ref e1])) e3 (HO.lst [])) e3 = some (HO.lst [])) he4) he5) he6) he7)
    have fe4 : (upd (upd (upd (upd (upd (upd (upd (upd H e0 (HO.tup [])) e1 (HO.tup [V.str "a", V.int 1])) e2 (HO.tup [V.ref e1])) e3 (HO.lst [])) e4 (HO.lst [V.str "a:1"])) e5 (HO.lst [V.str t])) e6 (HO.tup [V.str t])) e7 (HO.dK [])) e4 = some (HO.lst [V.str "a:1"]) := (hp_new (hp_new (hp_new (upd_same : (upd (upd (upd (upd (upd H e0 (HO.tup [])) e1 (HO.tup [V.str "a", V.int 1])) e2 (HO.tup [V.ref e1])) e3 (HO.lst [])) e4 (HO.lst [V.str "a:1"])) e4 = some (HO.lst [V.str "a:1"])) he5) he6) he7)
    have fe5 : (upd (upd (upd (upd (upd (upd (upd (upd H e0 (HO.tup [])) e1 (HO.tup [V.str "a", V.int 1])) e2 (HO.tup [V.ref e1])) e3 (HO.lst [])) e4 (HO.lst [V.str "a:1"])) e5 (HO.lst [V.str t])) e6 (HO.tup [V.str t])) e7 (HO.dK [])) e5 = some (HO.lst [V.str t]) := (hp_new (hp_new (upd_same : (upd (upd (upd (upd (upd (upd H e0 (HO.tup [])) e1 (HO.tup [V.str "a", V.int 1])) e2 (HO.tup [V.ref e1])) e3 (HO.lst [])) e4 (HO.lst [V.str "a:1"])) e5 (HO.lst [V.str t])) e5 = some (HO.lst [V.str t])) he6) he7)
    have fe6 : (upd (upd (upd (upd (upd (upd (upd (upd H e0 (HO.tup [])) e1 (HO.tup [V.str "a", V.int 1])) e2 (HO.tup [V.ref e1])) e3 (HO.lst [])) e4 (HO.lst [V.str "a:1"])) e5 (HO.lst [V.str t])) e6 (HO.tup [V.str t])) e7 (HO.dK [])) e6 = some (HO.tup [V.str t]) := (hp_new (upd_same : (upd (upd (upd (upd (upd (upd (upd H e0 (HO.tup [])) e1 (HO.tup [V.str "a", V.int 1])) e2 (HO.tup [V.ref e1])) e3 (HO.lst [])) e4 (HO.lst [V.str "a:1"])) e5 (HO.lst [V.str t])) e6 (HO.tup [V.str t])) e6 = some (HO.tup [V.str t])) he7)
    have fe7 : (upd (upd (upd (upd (upd (upd (upd (upd H e0 (HO.tup [])) e1 (HO.tup [V.str "a", V.int 1])) e2 (HO.tup [V.ref e1])) e3 (HO.lst [])) e4 (HO.lst [V.str "a:1"])) e5 (HO.lst [V.str t])) e6 (HO.tup [V.str t])) e7 (HO.dK [])) e7 = some (HO.dK []) := (upd_same : (upd (upd (upd (upd (upd (upd (upd (upd H e0 (HO.tup [])) e1 (HO.tup [V.str "a", V.int 1])) e2 (HO.tup [V.ref e1])) e3 (HO.lst [])) e4 (HO.lst [V.str "a:1"])) e5 (HO.lst [V.str t])) e6 (HO.tup [V.str t])) e7 (HO.dK [])) e7 = some (HO.dK []))
    generalize (upd (upd (upd (upd (upd (upd (upd (upd H e0 (HO.tup [])) e1 (HO.tup [V.str "a", V.int 1])) e2 (HO.tup [V.ref e1])) e3 (HO.lst [])) e4 (HO.lst [V.str "a:1"])) e5 (HO.lst [V.str t])) e6 (HO.tup [V.str t])) e7 (HO.dK [])) = H1 at s1 fe0 fe1 fe2 fe3 fe4 fe5 fe6 fe7 ⊢
    clear he0 he1 he2 he3 he4 he5 he6 he7
    refine w_mkSumV (fun _ => rfl) (.tup (et_Summary___init___0 _) .nil) hv1 fun sv H2 s2 hos => ?_
    tm_at "vp"
    rename_i ld hld0
    have sx := s2.trans (same_new hld0 (u := HO.lst [V.non, .int 0, .int 7, .bl true, .ref e0, .ref e2, .ref e3, .ref e4, .ref e5, .ref e6, .ref e7, sv]))
    have hld := @upd_same H2 ld (HO.lst [V.non, .int 0, .int 7, .bl true, .ref e0, .ref e2, .ref e3, .ref e4, .ref e5, .ref e6, .ref e7, sv])
    have hosx := sum_same (same_new hld0 (u := HO.lst [V.non, .int 0, .int 7, .bl true, .ref e0, .ref e2, .ref e3, .ref e4, .ref e5, .ref e6, .ref e7, sv])) hos
    have hns : ∀ y ∈ [V.non, .int 0, .int 7, .bl true, .ref e0, .ref e2, .ref e3, .ref e4, .ref e5, .ref e6, .ref e7, sv], (∃ d, Ax K (upd H2 ld (HO.lst [V.non, .int 0, .int 7, .bl true, .ref e0, .ref e2, .ref e3, .ref e4, .ref e5, .ref e6, .ref e7, sv])) y d ∧ txtD d ∧ ∀ m, cntD m d = none) ∧ ShK K (OwnR K "Summary" (sp_Summary___repr__ K) [0]) (upd H2 ld (HO.lst [V.non, .int 0, .int 7, .bl true, .ref e0, .ref e2, .ref e3, .ref e4, .ref e5, .ref e6, .ref e7, sv])) y := by
      generalize upd H2 ld (HO.lst [V.non, .int 0, .int 7, .bl true, .ref e0, .ref e2, .ref e3, .ref e4, .ref e5, .ref e6, .ref e7, sv]) = HZ at *
      have g0 : Dx K HZ (.ref e0) (.tuple []) := .tup (SqT.of (sx _ _ fe0)) .nil
      have g1 : Dx K HZ (.ref e1) (.tuple [.str "a", .int 1]) := .tup (SqT.of (sx _ _ fe1)) (.cons (.str _) (.cons (.int _) .nil))
      have g2 : Dx K HZ (.ref e2) (.tuple [.tuple [.str "a", .int 1]]) := .tup (SqT.of (sx _ _ fe2)) (.cons g1 .nil)
      have g3 : Dx K HZ (.ref e3) (.list []) := .lst (SqL.of (sx _ _ fe3)) .nil
      have g4 : Dx K HZ (.ref e4) (.list [.str "a:1"]) := .lst (SqL.of (sx _ _ fe4)) (.cons (.str _) .nil)
      have g5 : Dx K HZ (.ref e5) (.list [.str t]) := .lst (SqL.of (sx _ _ fe5)) (.cons (.str _) .nil)
      have g6 : Dx K HZ (.ref e6) (.tuple [.str t]) := .tup (SqT.of (sx _ _ fe6)) (.cons (.str _) .nil)
      have one : ∀ (v : V) (d : PyData), Dx K HZ v d → smW d = true → txtD d → (∀ m, cntD m d = none) → (∃ d, Ax K HZ v d ∧ txtD d ∧ ∀ m, cntD m d = none) ∧ ShK K (OwnR K "Summary" (sp_Summary___repr__ K) [0]) HZ v := fun v d a b c e => ⟨⟨d, .inl a, c, e⟩, .inl ⟨d, a, b⟩⟩
      have hst : smW (.list [.str t]) = true ∧ smW (.tuple [.str t]) = true := by
        have k1 : decide (rbX (.list [.str t]) ≤ 1000000) = true := decide_eq_true (by show rbX (.str t) + 2 + 0 + 2 ≤ _; omega)
        have k2 : decide (rbX (.tuple [.str t]) ≤ 1000000) = true := decide_eq_true (by show rbX (.str t) + 2 + 0 + 3 ≤ _; omega)
        constructor
        · show ((okX (.str t) && true) && (decide (rbX (.list [.str t]) ≤ 1000000) && _)) = true
          rw [hvt.1, k1]; rfl
        · show ((okX (.str t) && true) && (decide (rbX (.tuple [.str t]) ≤ 1000000) && _)) = true
          rw [hvt.1, k2]; rfl
      intro y hy
      simp only [List.mem_cons, List.not_mem_nil, or_false] at hy
      rcases hy with rfl | rfl | rfl | rfl | rfl | rfl | rfl | rfl | rfl | rfl | rfl | rfl
      · exact one _ _ .non (by decide +kernel) trivial fun _ => rfl
      · exact one _ _ (.int _) (by decide +kernel) trivial fun _ => rfl
      · exact one _ _ (.int _) (by decide +kernel) trivial fun _ => rfl
      · exact one _ _ (.bl _) (by decide +kernel) trivial fun _ => rfl
      · exact one _ _ g0 (by decide +kernel) trivial fun _ => rfl
      · exact one _ _ g2 (by decide +kernel) trivial fun _ => rfl
      · exact one _ _ g3 (by decide +kernel) trivial fun _ => rfl
      · exact one _ _ g4 (by decide +kernel) trivial fun _ => rfl
      · exact one _ _ g5 hst.1 trivial fun _ => rfl
      · exact one _ _ g6 hst.2 trivial fun _ => rfl
      · exact ⟨⟨.dict [], .inl (.dct (sx _ _ fe7)), trivial, fun _ => rfl⟩, .inr ⟨_, _, .dct (sx _ _ fe7), by decide, by decide +kernel⟩⟩
      · refine ⟨⟨sumMark, .inr ⟨rfl, 1, [], hosx⟩, trivial, fun _ => rfl⟩, .inr ⟨("Summary(" : Str) ++ intS 1 ++ (", '" : Str) ++ cText [] ++ ("')" : Str), _, .own ?_, by omega, by decide +kernel⟩⟩
        obtain ⟨na, nx, bv, rfl, h1, h2⟩ := hosx
        exact ⟨na, nx, _, rfl, h1, fun H0 s0 => ⟨.ref na, 1, [], rfl, sum_x s0 ⟨na, nx, bv, rfl, h1, h2⟩, hv1, hb1, fun H'' s' => ⟨rfl, s'⟩⟩⟩
    have hln : ([V.non, .int 0, .int 7, .bl true, .ref e0, .ref e2, .ref e3, .ref e4, .ref e5, .ref e6, .ref e7, sv] : List V).length ≤ 100000 := by simp
    clear hosx hos fe0 fe1 fe2 fe3 fe4 fe5 fe6 fe7
    have s02 := s1.trans sx
    clear s1 s2 sx hld0
    generalize [V.non, .int 0, .int 7, .bl true, .ref e0, .ref e2, .ref e3, .ref e4, .ref e5, .ref e6, .ref e7, sv] = xs at *
    generalize upd H2 ld (HO.lst xs) = H3 at *
    have T3 := hT0.ext s02
    refine w_onL (SqL.of hld) ?_
    refine for_go (walk_list (xs := xs)) (fun i σ H' => ∃ u1, σ = [some (.str t), u1, none] ∧ ExtN H3 H' ∧ Tabs (tabs K) H') ⟨_, rfl, ExtN.refl _, T3⟩ (fun i σ H' _ ⟨_, _, x, _⟩ => SqL.of (lst_x x hld)) ?_ ?_
    · rintro i y σ Ha Hb hi ⟨u1, rfl, xb, Tb⟩ ⟨rfl, hy⟩
      obtain ⟨⟨d, hax, hdt, hdn⟩, hsk⟩ := hns y (List.mem_of_getElem? hy)
      refine w_gname ?_
      simp only [List.set_cons_zero, List.set_cons_succ]
      have hdue : ∀ G, ExtN H3 G → ∃ T : Str, ∀ H', Same G H' → ∀ (D : Addr) (Q : VK), H' D = some (.lst [.str "text", y]) → (∀ H'', Same H' H'' → Q (.str T) H'') → rReprB K (OwnR K "Summary" (sp_Summary___repr__ K) [0]) [.ref D] H' Q := fun G x => due_repr hRm (.inr ⟨_, y, rfl, by decide +kernel, shK_x x (ownR_x x) hsk⟩)
      tm_at "vp"
      refine w_caughtR "text" (fun y' _ => y' = y) Tb (fun l1 y1 H5 x5 T5 hl1 hy1 => ?_) (fun Hq xq Tq Q' hQ => ?_)
      rotate_left
      · tm_at "vp"
        refine ⟨y, d, rfl, ax_x (xb.trans xq) hax, hdt, fun ps e => ?_, fun _ dd H' s hdd => ?_⟩
        · rw [hdn] at e; cases e
        · exact w_held (C := "InvalidText") (f := "text") (wd := "text") (by decide +kernel) hdd fun l Ht st hlt => hQ l _ Ht (xq.trans (ExtN.of (s.trans st))) (Tq.ext (s.trans st)) hlt rfl
      rw [hy1] at hl1
      obtain ⟨T, hT⟩ := hdue H5 (xb.trans x5)
      tm_at "vp"
      refine hT _ (Same.refl _) l1 _ hl1 fun H6 s6 => ?_
      tm_at "vp"
      rename_i M hM
      refine hT _ (s6.trans (same_new hM)) M _ upd_same fun H7 s7 => ?_
      have s57 := s6.trans ((same_new hM).trans s7)
      have x7 := x5.trans (ExtN.of s57)
      have T7 := T5.ext s57
      clear s57 s7 s6 hM hT hl1
      tm_at "vp"
      rw [decide_eq_true rfl]
      tm_at "vp"
      refine w_caughtR "text" (fun y' _ => y' = y) T7 (fun l2 y2 H8 x8 T8 hl2 hy2 => ?_) (fun Hq xq Tq Q' hQ => ?_)
      rotate_left
      · tm_at "vp"
        refine ⟨_, y, _, d, rfl, .int 3, ax_x (xb.trans (x7.trans xq)) hax, hdt, fun hb => absurd hb (by decide), fun c e _ _ => ⟨fun ps e2 => ?_, fun _ dd H' s hdd => ?_⟩⟩
        · rw [hdn] at e2; cases e2
        · exact w_held (C := "InvalidText") (f := "text") (wd := "text") (by decide +kernel) hdd fun l Ht st hlt => hQ l _ Ht (xq.trans (ExtN.of (s.trans st))) (Tq.ext (s.trans st)) hlt rfl
      rw [hy2] at hl2
      obtain ⟨T', hT'⟩ := hdue H8 (xb.trans (x7.trans x8))
      tm_at "vp"
      refine hT' _ (Same.refl _) l2 _ hl2 fun H9 s9 => ?_
      tm_at "vp"
      rename_i M2 hM2
      refine hT' _ (s9.trans (same_new hM2)) M2 _ upd_same fun HA sA => ?_
      have s8A := s9.trans ((same_new hM2).trans sA)
      tm_at "vp"
      rw [decide_eq_true rfl]
      tm_at "vp"
      exact ⟨_, rfl, xb.trans (x7.trans (x8.trans (ExtN.of s8A))), T8.ext s8A⟩
    rintro σ H4 ⟨u1, rfl, x4, T4⟩
    dsimp only
    tm_at "vp"
    rename_i c0 hc0 c1 hc1 c2 hc2 c3 hc3 lc hlc0
    have x04 := (ExtN.of s02).trans x4
    clear hns hld hln T3 s02 x4
    have s5 : Same H4 (upd (upd (upd (upd H4 c0 (HO.tup [])) c1 (HO.tup [V.int 4])) c2 (HO.lst [V.int 4])) c3 (HO.dK [])) := (((same_new hc0).trans (same_new hc1)).trans (same_new hc2)).trans (same_new hc3)
    have fc0 : (upd (upd (upd (upd H4 c0 (HO.tup [])) c1 (HO.tup [V.int 4])) c2 (HO.lst [V.int 4])) c3 (HO.dK [])) c0 = some (HO.tup []) := (hp_new (hp_new (hp_new (upd_same : (upd H4 c0 (HO.tup [])) c0 = some (HO.tup [])) hc1) hc2) hc3)
    have fc1 : (upd (upd (upd (upd H4 c0 (HO.tup [])) c1 (HO.tup [V.int 4])) c2 (HO.lst [V.int 4])) c3 (HO.dK [])) c1 = some (HO.tup [V.int 4]) := (hp_new (hp_new (upd_same : (upd (upd H4 c0 (HO.tup [])) c1 (HO.tup [V.int 4])) c1 = some (HO.tup [V.int 4])) hc2) hc3)
    have fc2 : (upd (upd (upd (upd H4 c0 (HO.tup [])) c1 (HO.tup [V.int 4])) c2 (HO.lst [V.int 4])) c3 (HO.dK [])) c2 = some (HO.lst [V.int 4]) := (hp_new (upd_same : (upd (upd (upd H4 c0 (HO.tup [])) c1 (HO.tup [V.int 4])) c2 (HO.lst [V.int 4])) c2 = some (HO.lst [V.int 4])) hc3)
    have fc3 : (upd (upd (upd (upd H4 c0 (HO.tup [])) c1 (HO.tup [V.int 4])) c2 (HO.lst [V.int 4])) c3 (HO.dK [])) c3 = some (HO.dK []) := (upd_same : (upd (upd (upd (upd H4 c0 (HO.tup [])) c1 (HO.tup [V.int 4])) c2 (HO.lst [V.int 4])) c3 (HO.dK [])) c3 = some (HO.dK []))
    generalize (upd (upd (upd (upd H4 c0 (HO.tup [])) c1 (HO.tup [V.int 4])) c2 (HO.lst [V.int 4])) c3 (HO.dK [])) = H5 at s5 fc0 fc1 fc2 fc3 hlc0 ⊢
    clear hc0 hc1 hc2 hc3
    have T5 := T4.ext s5
    have hlc := @upd_same H5 lc (HO.lst [V.int 0, V.int 9, V.int (-1), V.bl true, V.non, V.str "4", V.str "", V.ref c0, V.ref c1, V.ref c2, V.ref c3, V.int (10 ^ Int.toNat 30), V.str t])
    have s6 := same_new hlc0 (u := HO.lst [V.int 0, V.int 9, V.int (-1), V.bl true, V.non, V.str "4", V.str "", V.ref c0, V.ref c1, V.ref c2, V.ref c3, V.int (10 ^ Int.toNat 30), V.str t])
    have T6 := T5.ext s6
    have x06 := x04.trans (ExtN.of (s5.trans s6))
    have hns : ∀ y ∈ [V.int 0, V.int 9, V.int (-1), V.bl true, V.non, V.str "4", V.str "", V.ref c0, V.ref c1, V.ref c2, V.ref c3, V.int (10 ^ Int.toNat 30), V.str t], (∃ d, Dx K (upd H5 lc (HO.lst [V.int 0, V.int 9, V.int (-1), V.bl true, V.non, V.str "4", V.str "", V.ref c0, V.ref c1, V.ref c2, V.ref c3, V.int (10 ^ Int.toNat 30), V.str t])) y d ∧ betD d 1 8 = false) ∧ ShK K (OwnR K "Summary" (sp_Summary___repr__ K) [0]) (upd H5 lc (HO.lst [V.int 0, V.int 9, V.int (-1), V.bl true, V.non, V.str "4", V.str "", V.ref c0, V.ref c1, V.ref c2, V.ref c3, V.int (10 ^ Int.toNat 30), V.str t])) y := by
      generalize upd H5 lc (HO.lst [V.int 0, V.int 9, V.int (-1), V.bl true, V.non, V.str "4", V.str "", V.ref c0, V.ref c1, V.ref c2, V.ref c3, V.int (10 ^ Int.toNat 30), V.str t]) = HZ at *
      have g0 : Dx K HZ (.ref c0) (.tuple []) := .tup (SqT.of (s6 _ _ fc0)) .nil
      have g1 : Dx K HZ (.ref c1) (.tuple [.int 4]) := .tup (SqT.of (s6 _ _ fc1)) (.cons (.int _) .nil)
      have g2 : Dx K HZ (.ref c2) (.list [.int 4]) := .lst (SqL.of (s6 _ _ fc2)) (.cons (.int _) .nil)
      have one : ∀ (v : V) (d : PyData), Dx K HZ v d → smW d = true → betD d 1 8 = false → (∃ d, Dx K HZ v d ∧ betD d 1 8 = false) ∧ ShK K (OwnR K "Summary" (sp_Summary___repr__ K) [0]) HZ v := fun v d a b c => ⟨⟨d, a, c⟩, .inl ⟨d, a, b⟩⟩
      intro y hy
      simp only [List.mem_cons, List.not_mem_nil, or_false] at hy
      rcases hy with rfl | rfl | rfl | rfl | rfl | rfl | rfl | rfl | rfl | rfl | rfl | rfl | rfl
      · exact one _ _ (.int _) (by decide +kernel) (by decide)
      · exact one _ _ (.int _) (by decide +kernel) (by decide)
      · exact one _ _ (.int _) (by decide +kernel) (by decide)
      · exact one _ _ (.bl _) (by decide +kernel) rfl
      · exact one _ _ .non (by decide +kernel) rfl
      · exact one _ _ (.str _) (by decide +kernel) rfl
      · exact one _ _ (.str _) (by decide +kernel) rfl
      · exact one _ _ g0 (by decide +kernel) rfl
      · exact one _ _ g1 (by decide +kernel) rfl
      · exact one _ _ g2 (by decide +kernel) rfl
      · exact ⟨⟨.dict [], .dct (s6 _ _ fc3), rfl⟩, .inr ⟨_, _, .dct (s6 _ _ fc3), by decide, by decide +kernel⟩⟩
      · exact one _ _ (.int _) (by decide +kernel) (by decide +kernel)
      · refine one _ _ (.str _) ?_ rfl
        have k1 : decide (rbX (.str t) ≤ 1000000) = true := decide_eq_true (by omega)
        show (okX (.str t) && (decide (rbX (.str t) ≤ 1000000) && _)) = true
        rw [hvt.1, k1]; rfl
    have hln : ([V.int 0, V.int 9, V.int (-1), V.bl true, V.non, V.str "4", V.str "", V.ref c0, V.ref c1, V.ref c2, V.ref c3, V.int (10 ^ Int.toNat 30), V.str t] : List V).length ≤ 100000 := by simp
    clear fc0 fc1 fc2 fc3 s5 s6 hlc0 T4 T5 x04
    generalize [V.int 0, V.int 9, V.int (-1), V.bl true, V.non, V.str "4", V.str "", V.ref c0, V.ref c1, V.ref c2, V.ref c3, V.int (10 ^ Int.toNat 30), V.str t] = xs at *
    generalize upd H5 lc (HO.lst xs) = H6 at *
    refine w_onL (SqL.of hlc) ?_
    refine for_go (walk_list (xs := xs)) (fun i σ H' => ∃ u1 u2, σ = [some (.str t), u1, u2] ∧ ExtN H6 H' ∧ Tabs (tabs K) H') ⟨_, _, rfl, ExtN.refl _, T6⟩ (fun i σ H' _ ⟨_, _, _, x, _⟩ => SqL.of (lst_x x hlc)) ?_ ?_
    rotate_left
    · rintro σ Hz ⟨u1, u2, rfl, xz, Tz⟩
      dsimp only
      tm_at "vp"
      exact k _ (x06.trans xz) Tz
    rintro i y σ Ha Hb hi ⟨u1, u2, rfl, xb, Tb⟩ ⟨rfl, hy⟩
    obtain ⟨⟨d, hdx, hbd⟩, hsk⟩ := hns y (List.mem_of_getElem? hy)
    refine w_gname ?_
    simp only [List.set_cons_zero, List.set_cons_succ]
    tm_at "vp"
    rename_i lm hlm0
    have hlm := @upd_same Hb lm (HO.lst [V.str t, .str "", .non])
    have xm := xb.trans (ExtN.of (same_new hlm0 (u := HO.lst [V.str t, .str "", .non])))
    have Tm := Tb.ext (same_new hlm0 (u := HO.lst [V.str t, .str "", .non]))
    generalize upd Hb lm (HO.lst [V.str t, .str "", .non]) = Hm at *
    clear xb Tb hlm0
    refine w_onL (SqL.of hlm) ?_
    refine for_go (walk_list (xs := [V.str t, .str "", .non])) (fun i σ H' => ∃ u2, σ = [some (.str t), some y, u2] ∧ ExtN Hm H' ∧ Tabs (tabs K) H') ⟨_, rfl, ExtN.refl _, Tm⟩ (fun i σ H' _ ⟨_, _, x, _⟩ => SqL.of (lst_x x hlm)) ?_ ?_
    rotate_left
    · rintro σ Hz ⟨u2, rfl, xz, Tz⟩
      exact ⟨_, _, rfl, xm.trans xz, Tz⟩
    rintro i2 z σ Ha' Hi hi2 ⟨u2, rfl, xi, Ti⟩ ⟨rfl, hz⟩
    have x6i := xm.trans xi
    obtain ⟨dz, hdz, htz⟩ : ∃ dz, (∀ G, Dx K G z dz) ∧ txtD dz := by
      match i2, hi2 with
      | 0, _ => cases hz; exact ⟨_, fun _ => .str _, by have := ht.len; omega, ht.dig.mono (by decide)⟩
      | 1, _ => cases hz; exact ⟨_, fun _ => .str _, by decide +kernel, DR.of_len (by decide +kernel)⟩
      | 2, _ => cases hz; exact ⟨_, fun _ => .non, trivial⟩
    refine w_gname ?_
    simp only [List.set_cons_zero, List.set_cons_succ]
    tm_at "vp"
    refine w_caughtR "capacity" (fun y' _ => y' = y) Ti (fun l2 y2 H8 x8 T8 hl2 hy2 => ?_) (fun Hq xq Tq Q' hQ => ?_)
    rotate_left
    · tm_at "vp"
      refine ⟨y, z, d, dz, rfl, dx_x (x6i.trans xq) hdx, .inl (hdz _), htz, fun _ dd H' s hdd => ?_, fun c e c1 c8 => ?_⟩
      · exact w_held (C := "InvalidCapacity") (f := "capacity") (wd := "capacity") (by decide +kernel) hdd fun l Ht st hlt => hQ l _ Ht (xq.trans (ExtN.of (s.trans st))) (Tq.ext (s.trans st)) hlt rfl
      · exfalso
        subst e
        have hb : (decide (1 ≤ c) && decide (c ≤ 8)) = false := hbd
        rw [decide_eq_true c1, decide_eq_true c8] at hb
        cases hb
    rw [hy2] at hl2
    obtain ⟨T', hT'⟩ := due_repr hRm (due := [.str "capacity", y]) (.inr ⟨_, y, rfl, by decide +kernel, shK_x (x6i.trans x8) (ownR_x (x6i.trans x8)) hsk⟩)
    tm_at "vp"
    refine hT' _ (Same.refl _) l2 _ hl2 fun H9 s9 => ?_
    tm_at "vp"
    rename_i M2 hM2
    refine hT' _ (s9.trans (same_new hM2)) M2 _ upd_same fun HA sA => ?_
    have s8A := s9.trans ((same_new hM2).trans sA)
    tm_at "vp"
    rw [decide_eq_true rfl]
    tm_at "vp"
    exact ⟨_, rfl, xi.trans (x8.trans (ExtN.of s8A)), T8.ext s8A⟩
theorem ok__law_right {P : Program} {w : World} {K : PySem.W.Frag} {mg : Str → Option Value} {base : Heap} (fr : Fre mg) (D : Dfd K mg "_law_right" s__law_right)
    (h__law_bag : Has P w K mg base CX0 3 "_law_bag" s__law_bag ["_law_pool_here", "_law_words_here", "_law_most"] (sp__law_bag K))
    (h__law_words : Has P w K mg base CX0 2 "_law_words" s__law_words ["_law_pool_here", "_law_many"] (sp__law_words K))
    (h__law_draw : Has P w K mg base CX0 1 "_law_draw" s__law_draw ["_law_pool_here", "_law_many"] (sp__law_draw K))
    (h__law_shown : Has P w K mg base CX0 1 "_law_shown" s__law_shown ["_law_bag_here"] (sp__law_shown K))
    (h__law_bent : Has P w K mg base CX0 2 "_law_bent" s__law_bent ["_law_pool_here", "_law_shown_here", "_law_signs"] (sp__law_bent K))
    (h__law_one_right : Has P w K mg base CX0 11 "_law_one_right" s__law_one_right ["_law_widths", "_law_shown_here"] (sp__law_one_right K))
    (h__law_digits_in_row : Has P w K mg base CX0 1 "_law_digits_in_row" s__law_digits_in_row ["_law_shown_here"] (sp__law_digits_in_row K))
    (h__law_others_right : Has P w K mg base CX0 11 "_law_others_right" s__law_others_right ["_law_shown_here"] (sp__law_others_right K)) : Has P w K mg base CX0 12 "_law_right" s__law_right ["_law_pool_here"] (sp__law_right K) := by
  refine D.has sc__law_right (fun vs H Q E h => ?_) (fun cdv A outer s H vs Q E hr hg h => ?_)
  · obtain ⟨p, rfl, _⟩ := h; rfl
  · obtain ⟨p, rfl, hp, hT0, k⟩ := h
    have nd := sc__law_right.nd
    refine ⟨_, PSs.nox (pss_cons (ps_set (i := 1) nd rfl (Or.inl rfl) (pe_fn h__law_bag pb__law_bag (hr.mono (by decide)) hg rfl pass0 (pa_cons (pv 0) (pa_cons (pe_slice (k_slL K) (pe_fn h__law_words pb__law_words (hr.mono (by decide)) hg rfl pass0 (pa_cons (pv 0) (pa_cons pe_int pa_nil))) po_none (po_some (pe_fn h__law_draw pb__law_draw (hr.mono (by decide)) hg rfl pass0 (pa_cons (pv 0) (pa_cons pe_int pa_nil))))) (pa_cons pe_int pa_nil)))))
      (pss_cons (ps_par (i := 2) (j := 3) rfl nd rfl rfl (by decide) rfl rfl (pa_cons (pe_fn h__law_shown pb__law_shown (hr.mono (by decide)) hg rfl pass0 (pa_cons (pv 1) pa_nil)) (pa_cons (pe_lst (pa_cons (pe_op op_add pe_int (pe_fn h__law_draw pb__law_draw (hr.mono (by decide)) hg rfl pass0 (pa_cons (pv 0) (pa_cons pe_int pa_nil)))) (pa_cons pe_int pa_nil))) pa_nil)) rfl)
      (pss_cons (ps_for PassesOwn.never rfl (pi_range1 rfl fr.range_ (pa_cons pe_int pa_nil)) (pg_name (i := 4) nd rfl (Or.inl rfl))
        (pss_cons (ps_set (i := 5) nd rfl (Or.inl rfl) (pe_fn h__law_bent pb__law_bent (hr.mono (by decide)) hg rfl pass0 (pa_cons (pv 0) (pa_cons (pv 2) (pa_cons pe_str pa_nil)))))
      (pss_cons (ps_if (PW.pt (pw_and (pt_cmpR op_le (pe_fn h__law_digits_in_row pb__law_digits_in_row (hr.mono (by decide)) hg rfl pass0 (pa_cons (pv 5) pa_nil)) pe_int (nomark _)) (pw_and1 (pt_not (pt_val (pe_fn h__law_one_right pb__law_one_right (hr.mono (by decide)) hg rfl pass0 (pa_cons (pv 3) (pa_cons (pv 5) pa_nil)))))))) (pss_one (ps_ret pe_bl)) pss_nil)
      (pss_one (ps_if (pt_not (pt_val (pe_fn h__law_one_right pb__law_one_right (hr.mono (by decide)) hg rfl pass0 (pa_cons (pv 3) (pa_cons (pv 2) pa_nil))))) (pss_one (ps_ret pe_bl)) pss_nil)))))
      (pss_one (ps_ret (pe_fn h__law_others_right pb__law_others_right (hr.mono (by decide)) hg rfl pass0 (pa_cons (pv 2) pa_nil))))))), ?_⟩
    try dsimp only [cxOf]
    have est : ∀ a0 : V, L2.start N__law_right [a0] = [some a0, none, none, none, none, none] := fun _ => rfl
    simp only [est]
    clear est
    tm_at "vp"
    refine ⟨p, 12, rfl, hp, by decide, by decide, fun a1 ws H1 ha1 s1 hs1 hw1 => ?_⟩
    have wl : ws.length = 12 := hw1.len
    tm_at "vp"
    refine ⟨p, 13, rfl, s1 _ _ hp, by decide, by decide, fun n H2 n0 n1 s2 => ?_⟩
    obtain ⟨k1, rfl⟩ := Int.eq_ofNat_of_zero_le n0
    have s02 := s1.trans s2
    have hs2 := s2 _ _ hs1
    have hp2 := s02 _ _ hp
    tm_at "vp"
    refine w_slL (SqL.of hs2) fun q hq => ?_
    rw [cutV_take, ← List.map_take]
    have wlt : (ws.take k1).length ≤ 12 := by rw [List.length_take]; omega
    have sq := same_new hq (u := HO.lst ((ws.take k1).map V.str))
    have hqq := @upd_same H2 q (HO.lst ((ws.take k1).map V.str))
    generalize upd H2 q (HO.lst ((ws.take k1).map V.str)) = H3 at sq hqq ⊢
    tm_at "vp"
    refine ⟨p, q, ws.take k1, 0, (ws.take k1).length, rfl, sq _ _ hp2, SqL.of hqq, hw1.take _, by omega, by decide, by decide, fun bv ps H4 s4 hbd hbo hbm hbl hb30 _ => ?_⟩
    have s04 := s02.trans (sq.trans s4)
    have hl12 : ps.length ≤ 12 := by omega
    have T4 := hT0.ext s04
    have hbs : BagS ps := hbo.s fun p hp => Int.le_trans (hb30 p hp) (by decide)
    have htx := cText_30 (fun p hp => ⟨hbo.nam p hp, by have := hbo.pos p hp; omega, hb30 p hp⟩) hl12
    tm_at "vp"
    refine ⟨bv, ps, rfl, hbd, hbs, by omega, fun H5 s5 => ?_⟩
    have s05 := s04.trans s5
    tm_at "vp"
    refine ⟨p, 8, rfl, s05 _ _ hp, by decide, by decide, fun w H6 w0 w1 s6 => ?_⟩
    tm_at "vp"
    rename_i L hL
    have sL := (s05.trans s6).trans (same_new hL (u := HO.lst [V.int (1 + w), .int 8]))
    have fL := @upd_same H6 L (HO.lst [V.int (1 + w), .int 8])
    generalize upd H6 L (HO.lst [V.int (1 + w), .int 8]) = H7 at *
    have hp7 := sL _ _ hp
    have T7 := hT0.ext sL
    have hsL : SqL K H7 L ([1 + w, 8].map V.int) := SqL.of fL
    have hwn : ∀ n ∈ ([1 + w, 8] : List Int), 1 ≤ n ∧ n ≤ 8 := fun n hn => by
      rcases List.mem_cons.mp hn with rfl | hn
      · omega
      · cases List.mem_singleton.mp hn; decide
    generalize cText ps = t at *
    clear s1 s2 s02 hs2 hp2 sq hqq s4 s04 s5 s05 s6 hL fL hbd T4 hs1 ha1 hT0 hp
    refine w_onR1 ⟨by decide, by decide⟩ ?_
    refine for_go walk_range (fun i σ H' => ∃ u4 u5, σ = [some (.ref p), some bv, some (.str t), some (.ref L), u4, u5] ∧ ExtN H7 H' ∧ Tabs (tabs K) H') ⟨_, _, rfl, ExtN.refl _, T7⟩ (fun _ _ _ _ _ => trivial) ?_ ?_
    rotate_left
    · rintro σ Hz ⟨u4, u5, rfl, xz, Tz⟩
      dsimp only
      tm_at "vp"
      refine ⟨t, rfl, htx.mono (by decide) (by decide), Tz, fun Hy xy Ty => ?_⟩
      exact k _ ((ExtN.of sL).trans (xz.trans xy)) Ty
    rintro i y σ Ha Hb hi ⟨u4, u5, rfl, xa, Ta⟩ ⟨rfl, rfl⟩
    refine w_gname ?_
    simp only [List.set_cons_zero, List.set_cons_succ]
    tm_at "vp"
    refine ⟨p, t, rfl, pool_x xa hp7, htx, fun b Hc sc hb => ?_⟩
    have xc := xa.trans (ExtN.of sc)
    have Tc := Ta.ext sc
    have hrest : ∀ (G : Hp) (Q' : VK) (E' : XK), ExtN H7 G → Tabs (tabs K) G → (∀ G', ExtN H7 G' → Tabs (tabs K) G' → Q' (.bl true) G') → sp__law_one_right K [V.ref L, V.str t] G Q' E' := fun G Q' E' xg Tg hq => ⟨L, [1 + w, 8], t, rfl, sql_x xg hsL, hwn, (show 2 ≤ 10 by decide), htx.mono (by decide) (by decide), Tg, fun G' xg' Tg' => hq G' (xg.trans xg') Tg'⟩
    tm_at "vp"
    refine ⟨b, rfl, by have := hb.len; omega, fun n Hd hn sd => ?_⟩
    have xd := xc.trans (ExtN.of sd)
    have Td := Tc.ext sd
    tm_at "vp"
    by_cases hn60 : n ≤ 60
    · rw [decide_eq_true hn60]
      tm_at "vp"
      refine ⟨L, [1 + w, 8], b, rfl, sql_x xd hsL, hwn, (show 2 ≤ 10 by decide), ⟨hb.len, hn hn60, hb.asc⟩, Td, fun He1 xe Te => ?_⟩
      tm_at "vp"
      refine hrest _ _ _ (xd.trans xe) Te fun G' xg Tg => ?_
      tm_at "vp"
      exact ⟨_, _, rfl, xg, Tg⟩
    · rw [decide_eq_false hn60]
      tm_at "vp"
      refine hrest _ _ _ xd Td fun G' xg Tg => ?_
      tm_at "vp"
      exact ⟨_, _, rfl, xg, Tg⟩
theorem ok_law {P : Program} {w : World} {K : PySem.W.Frag} {mg : Str → Option Value} {base : Heap} (fr : Fre mg) (D : Dfd K mg "law" s_law)
    (h__law_by_hand : Has P w K mg base CX0 1 "_law_by_hand" s__law_by_hand [] (sp__law_by_hand K))
    (h__law_one_right : Has P w K mg base CX0 11 "_law_one_right" s__law_one_right ["_law_widths", "_law_shown_here"] (sp__law_one_right K))
    (h__law_right : Has P w K mg base CX0 12 "_law_right" s__law_right ["_law_pool_here"] (sp__law_right K))
    (h__law_pool : Has P w K mg base CX0 1 "_law_pool" s__law_pool ["_law_cell_here"] (sp__law_pool K))
    (h__law_cell : Has P w K mg base CX0 1 "_law_cell" s__law_cell ["_law_script", "_law_k"] (sp__law_cell K)) : Has P w K mg base CX0 13 "law" s_law ["_law_script"] (sp_law K) := by
  refine D.has sc_law (fun vs H Q E h => ?_) (fun cdv A outer s H vs Q E hr hg h => ?_)
  · obtain ⟨a, ns, rfl, _⟩ := h; rfl
  · obtain ⟨a, ns, rfl, hs0, hn, hT0, k⟩ := h
    have nd := sc_law.nd
    refine ⟨_, PSs.nox (pss_cons (ps_if (pt_not (pt_val (pe_callB (k_all K rfl) rfl fr.all_ (by decide +kernel) (pa_cons (pe_lc (own := [("_law_shown_here", 1)]) (g := gName 1) (tt := tYes) rfl nd (k_iList K (pe_fn0 h__law_by_hand pb__law_by_hand (hr.mono (by decide)) hg rfl pass0)) (blkOk_by (own := [("_law_shown_here", 1)]) (N := N_law) (sc := defScope s_law) (by decide +kernel)) (fun _ _ _ _ _ => (pg_name (i := 1) nd rfl (Or.inl rfl))) (fun _ _ _ _ _ => pts_nil) (fun _ _ _ _ _ => (pe_fn h__law_one_right pb__law_one_right (hr.mono (by decide)) hg rfl pass0 (pa_cons (pe_lst (pa_cons pe_int (pa_cons pe_int (pa_cons pe_int (pa_cons pe_int pa_nil))))) (pa_cons (pv 1) pa_nil))))) pa_nil)))) (pss_one (ps_ret pe_bl)) pss_nil)
      (pss_one (ps_ret (pe_callB (k_all K rfl) rfl fr.all_ (by decide +kernel) (pa_cons (pe_lc (own := [("_law_k", 2)]) (g := gName 2) (tt := tYes) rfl nd (pi_range1 rfl fr.range_ (pa_cons (pe_callB (c_max2 rfl) rfl fr.max_ (by decide +kernel) (pa_cons pe_int (pa_cons (pe_callB (c_min2 rfl) rfl fr.min_ (by decide +kernel) (pa_cons (pe_callB (k_len K) rfl fr.len_ (by decide +kernel) (pa_cons (pv 0) pa_nil)) (pa_cons pe_int pa_nil))) pa_nil))) pa_nil)) (blkOk_by (own := [("_law_k", 2)]) (N := N_law) (sc := defScope s_law) (by decide +kernel)) (fun _ _ _ _ _ => (pg_name (i := 2) nd rfl (Or.inl rfl))) (fun _ _ _ _ _ => pts_nil) (fun _ _ _ _ _ => (pe_fn h__law_right pb__law_right (hr.mono (by decide)) hg rfl pass0 (pa_cons (pe_fn h__law_pool pb__law_pool (hr.mono (by decide)) hg rfl pass0 (pa_cons (pe_fn h__law_cell pb__law_cell (hr.mono (by decide)) hg rfl pass0 (pa_cons (pv 0) (pa_cons (pv 2) pa_nil))) pa_nil)) pa_nil)))) pa_nil))))), ?_⟩
    try dsimp only [cxOf]
    have est : ∀ a0 : V, L2.start N_law [a0] = [some a0, none, none] := fun _ => rfl
    simp only [est]
    clear est
    tm_at "vp"
    refine ⟨rfl, fun la ts H1 _ s1 hla hts hlt => ?_⟩
    have T1 := hT0.ext s1
    refine w_onL (SqL.of hla) ?_
    intro D2 hD2
    refine lc_mapX (walk_list (xs := ts.map V.str)) (tabs K) (by rw [List.length_map]; omega) (fun _ y => y = .bl true) hD2 T1 (fun _ x => SqL.of (lst_x x hla)) ?_ ?_ mono_gname
    · rintro i y H6 H7 hi x6 T6 ⟨rfl, hy⟩ Qy hq
      rw [List.getElem?_map] at hy
      obtain ⟨t, e2, rfl⟩ := Option.map_eq_some_iff.mp hy
      refine w_gname ⟨rfl, ?_⟩
      tm_at "vp"
      rename_i L hL
      refine ⟨L, [1, 2, 7, 8], t, rfl, SqL.of upd_same, by decide, by decide, hts t (List.mem_of_getElem? e2), T6.ext (same_new hL), fun H8 x8 T8 => ?_⟩
      exact hq _ _ ((ExtN.of (same_new hL)).trans x8) T8 rfl
    intro acc2 H6 x6 T6 hacc2 hal2 hf2
    have eacc : acc2 = (List.replicate acc2.length true).map V.bl := acc_map (by simp) fun i y e => by
      obtain ⟨h, _⟩ := List.getElem?_eq_some_iff.mp e
      exact ⟨true, by rw [List.getElem?_replicate, if_pos h], hf2 i y e⟩
    rw [eacc] at hacc2
    tm_at "vp"
    refine w_all (SqL.of hacc2) ?_
    rw [show (List.replicate acc2.length true).all id = true from by simp]
    refine w_bl ?_
    refine w_iteF ?_
    have hs := sql_x x6 (s1.seq hs0)
    tm_at "vp"
    refine w_lenL hs ?_
    tm_at "vp"
    rw [List.length_map]
    refine w_onR1 ⟨by split <;> split <;> omega, by split <;> split <;> omega⟩ ?_
    intro D1 hD1
    refine lc_mapX walk_range (tabs K) (n := _) (by split <;> split <;> omega) (fun i y => y = .bl true) hD1 T6 (fun _ _ => trivial) ?_ ?_ mono_gname
    · rintro i y H9 H10 hi x9 T9 ⟨rfl, rfl⟩ Qy hq
      refine w_gname ⟨rfl, ?_⟩
      tm_at "vp"
      refine ⟨a, ns, _, rfl, sql_x x9 hs, by omega, by omega, by revert hi; split <;> split <;> omega, fun n H11 s11 => ?_⟩
      tm_at "vp"
      refine ⟨n, rfl, fun p H12 hp s12 hpp => ?_⟩
      tm_at "vp"
      refine ⟨p, rfl, hpp, T9.ext (s11.trans s12), fun H13 x13 T13 => ?_⟩
      exact hq _ _ ((ExtN.of (s11.trans s12)).trans x13) T13 rfl
    · intro acc3 H9 x9 T9 ha3 hl3 hf3
      have e : acc3 = (List.replicate acc3.length true).map V.bl := by
        refine List.ext_getElem? fun i => ?_
        cases z : acc3[i]? with
        | none => rw [List.getElem?_eq_none (by simpa using List.getElem?_eq_none_iff.mp z)]
        | some y =>
          rw [hf3 i y z]
          obtain ⟨h, _⟩ := List.getElem?_eq_some_iff.mp z
          simp [h]
      rw [e] at ha3
      tm_at "vp"
      refine w_all (SqL.of ha3) ?_
      have e2 : (List.replicate acc3.length true).all id = true := by simp
      rw [e2]
      exact k _
theorem facts {P : Program} {w : World} {K : PySem.W.Frag} {h : Heap} {mg : Str → Option Value} {f : Addr} (X : K.In h) (G : h.Ns mainGlobals mg) (hfa : mg ("law" : Str) = some (.ref f)) (c : He.SaysD fa fn K) (cx : (ex.all fun e => e K) = true) :
    ∃ fd : FuncData, (∀ (s : Shared) (v : Value), BindsTo s fd ⟨[v], []⟩ [("_law_script", v)]) ∧ ∀ base : Heap, (∀ p ∈ tf.map (He.cT K), TabB base mg p.1 p.2) → FnG P w K mg base CX0 13 f fd ["_law_script"] (sp_law K) := by
  have fr : Fre mg := ⟨He.free_ok X G (c.fact 40 (f := .free "len") rfl), He.free_ok X G (c.fact 41 (f := .free "isinstance") rfl), He.free_ok X G (c.fact 42 (f := .free "range") rfl), He.free_ok X G (c.fact 43 (f := .free "enumerate") rfl), He.free_ok X G (c.fact 44 (f := .free "zip") rfl), He.free_ok X G (c.fact 45 (f := .free "reversed") rfl), He.free_ok X G (c.fact 46 (f := .free "int") rfl), He.free_ok X G (c.fact 47 (f := .free "str") rfl), He.free_ok X G (c.fact 48 (f := .free "bool") rfl), He.free_ok X G (c.fact 49 (f := .free "tuple") rfl), He.free_ok X G (c.fact 50 (f := .free "list") rfl), He.free_ok X G (c.fact 51 (f := .free "dict") rfl), He.free_ok X G (c.fact 52 (f := .free "bytes") rfl), He.free_ok X G (c.fact 53 (f := .free "set") rfl), He.free_ok X G (c.fact 54 (f := .free "sum") rfl), He.free_ok X G (c.fact 55 (f := .free "all") rfl), He.free_ok X G (c.fact 56 (f := .free "any") rfl), He.free_ok X G (c.fact 57 (f := .free "abs") rfl), He.free_ok X G (c.fact 58 (f := .free "min") rfl), He.free_ok X G (c.fact 59 (f := .free "max") rfl), He.free_ok X G (c.fact 60 (f := .free "sorted") rfl), He.free_ok X G (c.fact 61 (f := .free "repr") rfl), He.free_ok X G (c.fact 62 (f := .free "divmod") rfl), He.free_ok X G (c.fact 63 (f := .free "type") rfl), He.free_ok X G (c.fact 64 (f := .free "map") rfl), He.free_ok X G (c.fact 65 (f := .free "iter") rfl), He.free_ok X G (c.fact 66 (f := .free "next") rfl)⟩
  have c_MAX_CAPACITY : ∃ t, mg "MAX_CAPACITY" = some (.int 8 t) := He.int_ok X G (c.fact 67 (f := .int "MAX_CAPACITY" 8) rfl)
  have c_LETTERS : ∃ t, mg "LETTERS" = some (.str "abcdefghijklmnopqrstuvwxyz" t) := He.str_ok X G (c.fact 68 (f := .str "LETTERS" "abcdefghijklmnopqrstuvwxyz") rfl)
  have c_MAX_NAMES : ∃ t, mg "MAX_NAMES" = some (.int 12 t) := He.int_ok X G (c.fact 69 (f := .int "MAX_NAMES" 12) rfl)
  have cl_Summary : ClsF K mg "Summary" ["capacity", "counts", "__bool__"] := clsB_ok X G (ex_at cx 0 rfl)
  have et_Summary___init___0 : ∀ H : Hp, SqT K H (dflA "Summary" "__init__" 0 K) [] := fun H => etupB_ok (ex_at cx 1 rfl) H
  have xk_InvalidCapacity : ExcK K mg "InvalidCapacity" "capacity" := exkB_ok X G (ex_at cx 2 rfl)
  have xk_InvalidSummary : ExcK K mg "InvalidSummary" "index" := exkB_ok X G (ex_at cx 3 rfl)
  have xk_InvalidText : ExcK K mg "InvalidText" "text" := exkB_ok X G (ex_at cx 4 rfl)
  have xm_InvalidSummary_InvalidSummary : PySem.W.exmOne K (.ref (He.ga K "InvalidSummary")) (.ref (He.ga K "InvalidSummary")) = some true := of_decide_eq_true (ex_at cx 5 rfl)
  have xE : ExF K mg := exfB_ok X G (ex_at cx 6 rfl)
  have tn__law_one_right__law_others_right := of_decide_eq_true (ex_at cx 7 rfl)
  have D_is_whole : Dfd K mg "is_whole" s_is_whole := ⟨c.def_ 0 (d := d_is_whole) rfl, He.glo_ok X G (c.fact 0 (f := .glo "is_whole") rfl)⟩
  have D_is_from : Dfd K mg "is_from" s_is_from := ⟨c.def_ 1 (d := d_is_from) rfl, He.glo_ok X G (c.fact 1 (f := .glo "is_from") rfl)⟩
  have D_is_between : Dfd K mg "is_between" s_is_between := ⟨c.def_ 2 (d := d_is_between) rfl, He.glo_ok X G (c.fact 2 (f := .glo "is_between") rfl)⟩
  have D_is_capacity : Dfd K mg "is_capacity" s_is_capacity := ⟨c.def_ 3 (d := d_is_capacity) rfl, He.glo_ok X G (c.fact 3 (f := .glo "is_capacity") rfl)⟩
  have D_is_name : Dfd K mg "is_name" s_is_name := ⟨c.def_ 4 (d := d_is_name) rfl, He.glo_ok X G (c.fact 4 (f := .glo "is_name") rfl)⟩
  have D_is_run : Dfd K mg "is_run" s_is_run := ⟨c.def_ 5 (d := d_is_run) rfl, He.glo_ok X G (c.fact 5 (f := .glo "is_run") rfl)⟩
  have D_first_invalid : Dfd K mg "first_invalid" s_first_invalid := ⟨c.def_ 6 (d := d_first_invalid) rfl, He.glo_ok X G (c.fact 6 (f := .glo "first_invalid") rfl)⟩
  have D_is_counts : Dfd K mg "is_counts" s_is_counts := ⟨c.def_ 7 (d := d_is_counts) rfl, He.glo_ok X G (c.fact 7 (f := .glo "is_counts") rfl)⟩
  have D_check_capacity : Dfd K mg "check_capacity" s_check_capacity := ⟨c.def_ 8 (d := d_check_capacity) rfl, He.glo_ok X G (c.fact 8 (f := .glo "check_capacity") rfl)⟩
  have D_read_number : Dfd K mg "read_number" s_read_number := ⟨c.def_ 9 (d := d_read_number) rfl, He.glo_ok X G (c.fact 9 (f := .glo "read_number") rfl)⟩
  have D_counts_text : Dfd K mg "counts_text" s_counts_text := ⟨c.def_ 10 (d := d_counts_text) rfl, He.glo_ok X G (c.fact 10 (f := .glo "counts_text") rfl)⟩
  have D_Summary___init__ : DfdM K "Summary" "__init__" "Summary.__init__" s_Summary___init__ [.ref (dflA "Summary" "__init__" 0 K)] := ⟨c.def_ 11 (d := d_Summary___init__) rfl, He.meth_ok (c.fact 11 (f := .meth "Summary" "__init__") rfl)⟩
  have D_Summary___repr__ : DfdM K "Summary" "__repr__" "Summary.__repr__" s_Summary___repr__ [] := ⟨c.def_ 12 (d := d_Summary___repr__) rfl, He.meth_ok (c.fact 12 (f := .meth "Summary" "__repr__") rfl)⟩
  have D_scan_counts : Dfd K mg "scan_counts" s_scan_counts := ⟨c.def_ 13 (d := d_scan_counts) rfl, He.glo_ok X G (c.fact 13 (f := .glo "scan_counts") rfl)⟩
  have D_summary_or_none : Dfd K mg "summary_or_none" s_summary_or_none := ⟨c.def_ 14 (d := d_summary_or_none) rfl, He.glo_ok X G (c.fact 14 (f := .glo "summary_or_none") rfl)⟩
  have D_parse_summary : Dfd K mg "parse_summary" s_parse_summary := ⟨c.def_ 15 (d := d_parse_summary) rfl, He.glo_ok X G (c.fact 15 (f := .glo "parse_summary") rfl)⟩
  have D_parse_counts : Dfd K mg "parse_counts" s_parse_counts := ⟨c.def_ 16 (d := d_parse_counts) rfl, He.glo_ok X G (c.fact 16 (f := .glo "parse_counts") rfl)⟩
  have D__law_cell : Dfd K mg "_law_cell" s__law_cell := ⟨c.def_ 17 (d := d__law_cell) rfl, He.glo_ok X G (c.fact 17 (f := .glo "_law_cell") rfl)⟩
  have D__law_pool : Dfd K mg "_law_pool" s__law_pool := ⟨c.def_ 18 (d := d__law_pool) rfl, He.glo_ok X G (c.fact 18 (f := .glo "_law_pool") rfl)⟩
  have D__law_draw : Dfd K mg "_law_draw" s__law_draw := ⟨c.def_ 19 (d := d__law_draw) rfl, He.glo_ok X G (c.fact 19 (f := .glo "_law_draw") rfl)⟩
  have D__law_words : Dfd K mg "_law_words" s__law_words := ⟨c.def_ 20 (d := d__law_words) rfl, He.glo_ok X G (c.fact 20 (f := .glo "_law_words") rfl)⟩
  have D__law_often : Dfd K mg "_law_often" s__law_often := ⟨c.def_ 21 (d := d__law_often) rfl, He.glo_ok X G (c.fact 21 (f := .glo "_law_often") rfl)⟩
  have D__law_bag : Dfd K mg "_law_bag" s__law_bag := ⟨c.def_ 22 (d := d__law_bag) rfl, He.glo_ok X G (c.fact 22 (f := .glo "_law_bag") rfl)⟩
  have D__law_kind : Dfd K mg "_law_kind" s__law_kind := ⟨c.def_ 23 (d := d__law_kind) rfl, He.glo_ok X G (c.fact 23 (f := .glo "_law_kind") rfl)⟩
  have D__law_fields : Dfd K mg "_law_fields" s__law_fields := ⟨c.def_ 24 (d := d__law_fields) rfl, He.glo_ok X G (c.fact 24 (f := .glo "_law_fields") rfl)⟩
  have D__law_other_fields : Dfd K mg "_law_other_fields" s__law_other_fields := ⟨c.def_ 25 (d := d__law_other_fields) rfl, He.glo_ok X G (c.fact 25 (f := .glo "_law_other_fields") rfl)⟩
  have D__law_shown : Dfd K mg "_law_shown" s__law_shown := ⟨c.def_ 26 (d := d__law_shown) rfl, He.glo_ok X G (c.fact 26 (f := .glo "_law_shown") rfl)⟩
  have D__law_pair : Dfd K mg "_law_pair" s__law_pair := ⟨c.def_ 27 (d := d__law_pair) rfl, He.glo_ok X G (c.fact 27 (f := .glo "_law_pair") rfl)⟩
  have D__law_due : Dfd K mg "_law_due" s__law_due := ⟨c.def_ 28 (d := d__law_due) rfl, He.glo_ok X G (c.fact 28 (f := .glo "_law_due") rfl)⟩
  have D__law_bent : Dfd K mg "_law_bent" s__law_bent := ⟨c.def_ 29 (d := d__law_bent) rfl, He.glo_ok X G (c.fact 29 (f := .glo "_law_bent") rfl)⟩
  have D__law_digits_in_row : Dfd K mg "_law_digits_in_row" s__law_digits_in_row := ⟨c.def_ 30 (d := d__law_digits_in_row) rfl, He.glo_ok X G (c.fact 30 (f := .glo "_law_digits_in_row") rfl)⟩
  have D__law_one_right : Dfd K mg "_law_one_right" s__law_one_right := ⟨c.def_ 31 (d := d__law_one_right) rfl, He.glo_ok X G (c.fact 31 (f := .glo "_law_one_right") rfl)⟩
  have D__law_by_hand : Dfd K mg "_law_by_hand" s__law_by_hand := ⟨c.def_ 32 (d := d__law_by_hand) rfl, He.glo_ok X G (c.fact 32 (f := .glo "_law_by_hand") rfl)⟩
  have D__law_others_right : Dfd K mg "_law_others_right" s__law_others_right := ⟨c.def_ 33 (d := d__law_others_right) rfl, He.glo_ok X G (c.fact 33 (f := .glo "_law_others_right") rfl)⟩
  have D__law_right : Dfd K mg "_law_right" s__law_right := ⟨c.def_ 34 (d := d__law_right) rfl, He.glo_ok X G (c.fact 34 (f := .glo "_law_right") rfl)⟩
  have D_law : Dfd K mg "law" s_law := ⟨c.def_ 35 (d := d_law) rfl, He.glo_ok X G (c.fact 35 (f := .glo "law") rfl)⟩
  have D_InvalidCapacity___init__ : DfdM K "InvalidCapacity" "__init__" "InvalidCapacity.__init__" s_InvalidCapacity___init__ [] := ⟨c.def_ 36 (d := d_InvalidCapacity___init__) rfl, He.meth_ok (c.fact 36 (f := .meth "InvalidCapacity" "__init__") rfl)⟩
  have D_InvalidSummary___init__ : DfdM K "InvalidSummary" "__init__" "InvalidSummary.__init__" s_InvalidSummary___init__ [] := ⟨c.def_ 37 (d := d_InvalidSummary___init__) rfl, He.meth_ok (c.fact 37 (f := .meth "InvalidSummary" "__init__") rfl)⟩
  have D_InvalidText___init__ : DfdM K "InvalidText" "__init__" "InvalidText.__init__" s_InvalidText___init__ [] := ⟨c.def_ 38 (d := d_InvalidText___init__) rfl, He.meth_ok (c.fact 38 (f := .meth "InvalidText" "__init__") rfl)⟩
  have D__law_caught : Dfd K mg "_law_caught" s__law_caught := ⟨c.def_ 39 (d := d__law_caught) rfl, He.glo_ok X G (c.fact 39 (f := .glo "_law_caught") rfl)⟩
  have e := hfa.symm.trans D_law.glo
  cases e
  obtain ⟨fd, F⟩ := D_law.ex
  have b := FunD.bindsA (ps := ["_law_script"]) F fun _ _ _ _ _ _ us hl => match us, hl with | [_], _ => rfl
  refine ⟨fd, fun s v => b s [v] rfl, fun base htb => ?_⟩
  have x_InvalidCapacity : HasX P w K mg base "InvalidCapacity" "capacity" := hasX_of xk_InvalidCapacity D_InvalidCapacity___init__.ex sc_InvalidCapacity___init__ rfl (.inl rfl) (.inl rfl) (fun _ _ _ _ _ _ us hl => match us, hl with | [_, _], _ => rfl)
  have x_InvalidSummary : HasX P w K mg base "InvalidSummary" "index" := hasX_of xk_InvalidSummary D_InvalidSummary___init__.ex sc_InvalidSummary___init__ rfl (.inl rfl) (.inl rfl) (fun _ _ _ _ _ _ us hl => match us, hl with | [_, _], _ => rfl)
  have x_InvalidText : HasX P w K mg base "InvalidText" "text" := hasX_of xk_InvalidText D_InvalidText___init__.ex sc_InvalidText___init__ rfl (.inl rfl) (.inl rfl) (fun _ _ _ _ _ _ us hl => match us, hl with | [_, _], _ => rfl)
  have tb__law_one_right : TabB base mg (He.cT K ("_law_one_right", none)).1 (He.cT K ("_law_one_right", none)).2 := htb _ (List.mem_map.mpr ⟨("_law_one_right", none), by decide, rfl⟩)
  have tb__law_others_right : TabB base mg (He.cT K ("_law_others_right", none)).1 (He.cT K ("_law_others_right", none)).2 := htb _ (List.mem_map.mpr ⟨("_law_others_right", none), by decide, rfl⟩)
  have hu__law_one_right : ∀ p ∈ tabs K, p.1 = (He.cT K ("_law_one_right", none)).2 → p.2 = "_law_one_right.<locals>.<lambda>" := by
    intro p hp e
    rcases List.mem_cons.mp hp with q | hp
    · rw [q]
    rcases List.mem_cons.mp hp with q | hp
    · rw [q] at e; exact absurd e.symm tn__law_one_right__law_others_right
    cases hp
  have hu__law_others_right : ∀ p ∈ tabs K, p.1 = (He.cT K ("_law_others_right", none)).2 → p.2 = "_law_others_right.<locals>.<lambda>" := by
    intro p hp e
    rcases List.mem_cons.mp hp with q | hp
    · rw [q] at e; exact absurd e tn__law_one_right__law_others_right
    rcases List.mem_cons.mp hp with q | hp
    · rw [q]
    cases hp
  have h__law_by_hand : Has P w K mg base CX0 1 "_law_by_hand" s__law_by_hand [] (sp__law_by_hand K) := ok__law_by_hand fr D__law_by_hand
  have h__law_pair : Has P w K mg base CX0 1 "_law_pair" s__law_pair ["_law_word"] (sp__law_pair K) := ok__law_pair fr D__law_pair
  have h__law_due : Has P w K mg base CX0 2 "_law_due" s__law_due ["_law_shown_here"] (sp__law_due K) := ok__law_due fr D__law_due h__law_pair
  have h__law_kind : HasP P w K mg base 1 "_law_kind" s__law_kind ["_law_e"] (sp__law_kind K) := ok__law_kind fr xE D__law_kind
  have h__law_other_fields : HasP P w K mg base 1 "_law_other_fields" s__law_other_fields ["_law_e"] (sp__law_other_fields K) := ok__law_other_fields fr xE D__law_other_fields
  have h__law_fields : HasP P w K mg base 2 "_law_fields" s__law_fields ["_law_e"] (sp__law_fields K) := ok__law_fields fr xE D__law_fields h__law_other_fields
  have h_read_number : Has P w K mg base CX0 1 "read_number" s_read_number ["word"] (sp_read_number K) := ok_read_number fr D_read_number
  have h_scan_counts : Has P w K mg base CX0 2 "scan_counts" s_scan_counts ["text"] (sp_scan_counts K) := ok_scan_counts fr cl_Summary et_Summary___init___0 D_scan_counts h_read_number
  have h_is_whole : Has P w K mg base CX0 1 "is_whole" s_is_whole ["thing"] (sp_is_whole K) := ok_is_whole fr D_is_whole
  have h_is_from : Has P w K mg base CX0 2 "is_from" s_is_from ["thing", "least"] (sp_is_from K) := ok_is_from fr D_is_from h_is_whole
  have h_is_name : Has P w K mg base CX0 1 "is_name" s_is_name ["thing"] (sp_is_name K) := ok_is_name fr c_LETTERS D_is_name
  have h_is_run : Has P w K mg base CX0 3 "is_run" s_is_run ["thing"] (sp_is_run K) := ok_is_run fr D_is_run h_is_from h_is_name
  have h_first_invalid : Has P w K mg base CX0 4 "first_invalid" s_first_invalid ["thing", "most"] (sp_first_invalid K) := ok_first_invalid fr D_first_invalid h_is_run
  have h_is_counts : Has P w K mg base CX0 5 "is_counts" s_is_counts ["thing"] (sp_is_counts K) := ok_is_counts fr c_MAX_NAMES D_is_counts h_first_invalid
  have h_parse_counts : Has P w K mg base (L2.CX P w) 6 "parse_counts" s_parse_counts ["text"] (sp_parse_counts K) := ok_parse_counts fr x_InvalidText D_parse_counts h_scan_counts h_is_counts
  have h_is_between : Has P w K mg base CX0 2 "is_between" s_is_between ["thing", "least", "most"] (sp_is_between K) := ok_is_between fr D_is_between h_is_whole
  have h_is_capacity : Has P w K mg base CX0 3 "is_capacity" s_is_capacity ["thing"] (sp_is_capacity K) := ok_is_capacity fr c_MAX_CAPACITY D_is_capacity h_is_between
  have h_check_capacity : Has P w K mg base (L2.CX P w) 4 "check_capacity" s_check_capacity ["thing"] (sp_check_capacity K) := ok_check_capacity fr x_InvalidCapacity D_check_capacity h_is_capacity
  have h_Summary___init__ : HasM P w K mg base (L2.CX P w) 5 "Summary" "__init__" "Summary.__init__" s_Summary___init__ [.ref (dflA "Summary" "__init__" 0 K)] ["self", "capacity", "counts"] (sp_Summary___init__ K) := ok_Summary___init__ fr cl_Summary et_Summary___init___0 x_InvalidSummary D_Summary___init__ h_check_capacity h_first_invalid
  have h_summary_or_none : Has P w K mg base CX0 7 "summary_or_none" s_summary_or_none ["capacity", "counts"] (sp_summary_or_none K) := ok_summary_or_none fr cl_Summary et_Summary___init___0 x_InvalidSummary xm_InvalidSummary_InvalidSummary D_summary_or_none h_Summary___init__
  have h_parse_summary : Has P w K mg base (L2.CX P w) 8 "parse_summary" s_parse_summary ["capacity", "text"] (sp_parse_summary K) := ok_parse_summary fr x_InvalidText D_parse_summary h_check_capacity h_summary_or_none h_scan_counts
  have h__law_one_right : Has P w K mg base CX0 11 "_law_one_right" s__law_one_right ["_law_widths", "_law_shown_here"] (sp__law_one_right K) := ok__law_one_right fr cl_Summary et_Summary___init___0 xE D__law_caught D__law_one_right tb__law_one_right hu__law_one_right h__law_due h__law_kind h__law_fields h_parse_counts h_parse_summary
  have h__law_draw : Has P w K mg base CX0 1 "_law_draw" s__law_draw ["_law_pool_here", "_law_many"] (sp__law_draw K) := ok__law_draw fr D__law_draw
  have h__law_often : Has P w K mg base CX0 2 "_law_often" s__law_often ["_law_pool_here"] (sp__law_often K) := ok__law_often fr D__law_often h__law_draw
  have h__law_bag : Has P w K mg base CX0 3 "_law_bag" s__law_bag ["_law_pool_here", "_law_words_here", "_law_most"] (sp__law_bag K) := ok__law_bag fr D__law_bag h__law_draw h__law_often
  have h__law_words : Has P w K mg base CX0 2 "_law_words" s__law_words ["_law_pool_here", "_law_many"] (sp__law_words K) := ok__law_words fr D__law_words h__law_draw
  have h__law_shown : Has P w K mg base CX0 1 "_law_shown" s__law_shown ["_law_bag_here"] (sp__law_shown K) := ok__law_shown fr D__law_shown
  have h__law_bent : Has P w K mg base CX0 2 "_law_bent" s__law_bent ["_law_pool_here", "_law_shown_here", "_law_signs"] (sp__law_bent K) := ok__law_bent fr D__law_bent h__law_draw
  have h__law_digits_in_row : Has P w K mg base CX0 1 "_law_digits_in_row" s__law_digits_in_row ["_law_shown_here"] (sp__law_digits_in_row K) := ok__law_digits_in_row fr D__law_digits_in_row
  have h_counts_text : HasA P w K mg base CX0 1 "counts_text" s_counts_text ["counts"] (sp_counts_text K) := ok_counts_text fr D_counts_text
  have h_Summary___repr__ : HasMA P w K mg base CX0 2 "Summary" "__repr__" "Summary.__repr__" s_Summary___repr__ [] ["self"] (sp_Summary___repr__ K) := ok_Summary___repr__ fr cl_Summary et_Summary___init___0 D_Summary___repr__ h_counts_text
  have h__law_others_right : Has P w K mg base CX0 11 "_law_others_right" s__law_others_right ["_law_shown_here"] (sp__law_others_right K) := ok__law_others_right fr cl_Summary et_Summary___init___0 xE D__law_caught D__law_others_right tb__law_others_right hu__law_others_right h_Summary___init__ h_Summary___repr__ h__law_kind h__law_fields h_parse_counts h_parse_summary
  have h__law_right : Has P w K mg base CX0 12 "_law_right" s__law_right ["_law_pool_here"] (sp__law_right K) := ok__law_right fr D__law_right h__law_bag h__law_words h__law_draw h__law_shown h__law_bent h__law_one_right h__law_digits_in_row h__law_others_right
  have h__law_pool : Has P w K mg base CX0 1 "_law_pool" s__law_pool ["_law_cell_here"] (sp__law_pool K) := ok__law_pool fr D__law_pool
  have h__law_cell : Has P w K mg base CX0 1 "_law_cell" s__law_cell ["_law_script", "_law_k"] (sp__law_cell K) := ok__law_cell fr D__law_cell
  have h_law : Has P w K mg base CX0 13 "law" s_law ["_law_script"] (sp_law K) := ok_law fr D_law h__law_by_hand h__law_one_right h__law_right h__law_pool h__law_cell
  exact h_law.fixed F
end TP
open PySem PySem.W PySem.Calls PyProof.Rows
set_option maxRecDepth 100000 in
set_option maxHeartbeats 0 in
theorem PySem.Challenge.cw_tallyplans_k17_texts_that_are_none_holds : PySem.Challenge.rw_tallyplans_k17_texts_that_are_none.Holds := by
  w_on; o_law
  refine HandSHeadRun.head_any (r := OpenLaw.row PySem.Challenge.rw_tallyplans_k17_texts_that_are_none) (q := view (OpenLaw.row PySem.Challenge.rw_tallyplans_k17_texts_that_are_none).prog [70]) (H := TP.hk) (ob := TP.ob) (M := 16000) (loose := TP.loose) (d := HandSHeadRun.topDef (OpenLaw.row PySem.Challenge.rw_tallyplans_k17_texts_that_are_none).prog 70) (kwd := []) TP.ob_eq
    (by kernel_rfl) (fun s => by kernel_rfl) TP.run (by kernel_rfl) (by kernel_rfl) (by kernel_rfl) (by rfl) (by first | assumption | decide +kernel) (by decide +kernel) ⟨rfl, rfl, rfl, rfl, rfl, by decide +kernel⟩ ?hw ?hc
  case hw => w_witness2
  case hc =>
    refine TP.walkGT (l := PySem.Challenge.rw_tallyplans_k17_texts_that_are_none) (n := 63) (k := 13) (x := "_law_script") rfl (by decide) (by kernel_rfl) ⟨rfl, by decide, by decide⟩ ?F
    intro w mg fa h Y G hmg0
    obtain ⟨K, KX, c⟩ := Y
    have hmg : mg ("law" : PySem.Str) = some (.ref fa) := by
      have e : (HandSHeadRun.topDef (OpenLaw.row PySem.Challenge.rw_tallyplans_k17_texts_that_are_none).prog 70).name = ("law" : PySem.Str) := by kernel_rfl
      rw [← e]
      exact hmg0
    obtain ⟨fd, hb, hF⟩ := TP.facts (P := (PySem.Challenge.rw_tallyplans_k17_texts_that_are_none).prog) (w := w) KX G hmg c.t.d c.more
    refine ⟨K, KX, fd, TP.tf.map (He.cT K), TP.sp_law K, fun p hp => ?_, fun p hp => ?_, fun p hp => ?_, hb, fun H a ns hl hT hS => ?_, fun base _ _ ht => hF base ht⟩
    · obtain ⟨q, hq, rfl⟩ := List.mem_map.mp hp; exact c.empty q hq
    · obtain ⟨q, hq, rfl⟩ := List.mem_map.mp hp; exact c.out q hq
    · obtain ⟨q, hq, rfl⟩ := List.mem_map.mp hp; exact PySem.W.codeHd_of_K KX (c.hd q hq)
    · have hT2 : LamX.Tabs (TP.tabs K) H := fun p hp => by
        rcases List.mem_cons.mp hp with e | hp
        · rw [e]; exact LamX.TabS.nil (hT _ (List.mem_map.mpr ⟨("_law_one_right", none), by decide, rfl⟩))
        rcases List.mem_cons.mp hp with e | hp
        · rw [e]; exact LamX.TabS.nil (hT _ (List.mem_map.mpr ⟨("_law_others_right", none), by decide, rfl⟩))
        exact absurd hp List.not_mem_nil
      exact ⟨a, ns, rfl, hS, hl, hT2, fun _ => rfl⟩
