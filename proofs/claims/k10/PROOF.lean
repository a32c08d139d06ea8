import PyProof.Rows.All
import Wide.All
import OpenK.AllK
import Wide.FinOn
import KE.KStateDown
import HandS.ForMost
import HandS.ForExc
import HandS.Defaults
import HandS.HeadEnd
import HandS.Head0
import HandS.Head1
import HandS.Head2
import HandS.HeadHook1
import HandS.HeadHook2
import HandS.IsInst
import HandS.ExcIs
import HandS.TupAny
import HandS.Style
import HandS.SetFor
import HandS.SetKeys
import HandS.SortInts
import HandS.CallRecv
import HandS.Strs
import KE.KExcSuper
import HandS.ExcInit
import HandS.ExcField
import HandS.OwnEq
import PyProof.InstEq
import KE.KExcIs
import HandS.RevRange
import KE.GoesMore
import KE.GoesEnum
import HandS.SetTxt0
import HandS.TupSets
import HandS.DictComp
import HandS.Finally
import HandS.Conv
import PyProof.ListStr
import HandS.Deep
import HandS.TupMul
import HandS.Text
import HandS.StrMore
import PySem.Challenge.RW_usecounts_k10_whole_texts_there_and_back
set_option Elab.async false
set_option linter.all false
set_option maxRecDepth 100000
set_option maxHeartbeats 2000000
namespace Us
open PySem PySem.Spec PyProof.Rows L2
/-! ### the head by facts, and one Bool more -/
abbrev AlX : Type := He.AlD × Bool
def obsX (fa : List He.Fa) (fn : List He.DefD) (ex : PySem.W.Frag → Bool) (K : PySem.W.Frag) : AlX := (He.obsD fa fn K, ex K)
def obsXG (n : Nat) (fa : List He.Fa) (fn : List He.DefD) (ex : PySem.W.Frag → Bool) (g : Addr → Option Obj) : AlX := obsX fa fn ex (He.frG g (He.asD g n))
def hookX (n : Nat) (fa : List He.Fa) (fn : List He.DefD) (ex : PySem.W.Frag → Bool) : PySem.W.Hook where
  α := AlX
  obs := fun s => obsXG n fa fn ex s.heap.get?
  val := fun _ => (He.valD fn, true)
  says := fun _ h => ∃ K : PySem.W.Frag, K.In h ∧ He.SaysD fa fn K ∧ ex K = true
  of := fun _ _ e => ⟨_, He.frG_in, congrArg (fun z : AlX => z.1) e, congrArg (fun z : AlX => z.2) e⟩
  keeps := fun _ _ _ ⟨K, hK, c⟩ k => ⟨K, PySem.W.Frag.In.keeps hK k, c⟩
theorem obsXG_eq {n : Nat} {fa : List He.Fa} {fn : List He.DefD} {ex : PySem.W.Frag → Bool} {g : Addr → Option Obj} {s : Shared} (h : ∀ a, g a = s.heap.get? a) : obsXG n fa fn ex g = (hookX n fa fn ex).obs s := by
  have e : g = s.heap.get? := funext h
  rw [e] <;> rfl
end Us
set_option maxRecDepth 100000
set_option maxHeartbeats 2000000
namespace Us
open PySem PySem.Spec PyProof.Rows L2
/-! ### names of the module, defs -/
def GlobV (mg : Str → Option Value) (x : Str) (v : V) : Prop := ∃ u, mg x = some u ∧ RelV v u
theorem pe_globD {X : Cx} {x : Str} {v : V} {pos : Pos} (h : GlobV X.mg x v) (hg : Gl X x := by rfl) (hd : (x == ("__debug__" : Str)) = false := by decide) : PE X (.Name x pos) (tC v) := by
  obtain ⟨u, hm, r⟩ := h
  exact pe_glob hg hm r hd
structure DefOk (P : Program) (w : World) (K : PySem.W.Frag) (mg : Str → Option Value) (base : Heap) (CX : CXT) (k : Nat) (x : Str) (ps : List Str) (sp : Sp) : Prop where
  ex : ∃ (f : Addr) (fd : FuncData), FnOk P w K mg base CX k f fd ps sp ∧ Binds K fd ps [] ∧ mg x = some (.ref f) ∧ PySem.W.keepIn K (.ref f) = true
theorem DefOk.mono {P : Program} {w : World} {K : PySem.W.Frag} {mg : Str → Option Value} {base : Heap} {CX : CXT} {j k : Nat} {x : Str} {ps : List Str} {sp : Sp} (D : DefOk P w K mg base CX j x ps sp) (h : j ≤ k) : DefOk P w K mg base CX k x ps sp := by
  obtain ⟨f, fd, F, r⟩ := D.ex
  exact ⟨f, fd, F.mono h, r⟩
theorem DefOk.imp {P : Program} {w : World} {K : PySem.W.Frag} {mg : Str → Option Value} {base : Heap} {CX : CXT} {k : Nat} {x : Str} {ps : List Str} {sp sp' : Sp} (D : DefOk P w K mg base CX k x ps sp) (h : ∀ vs H Q E, sp' vs H Q E → sp vs H Q E) : DefOk P w K mg base CX k x ps sp' := by
  obtain ⟨f, fd, F, r⟩ := D.ex
  exact ⟨f, fd, F.imp h, r⟩
/-- what the head says of a def: where it stands -/
structure DefAt (K : PySem.W.Frag) (mg : Str → Option Value) (x : Str) (st : Stmt) : Prop where
  ex : ∃ (f : Addr) (fd : FuncData), FunD K x x (defArgs st) (defBody st) (defScope st) [] [] f fd ∧ mg x = some (.ref f)
section
variable {P : Program} {w : World} {K : PySem.W.Frag} {mg : Str → Option Value} {base : Heap}
/-- the rule for a def -/
theorem DefAt.ok {x : Str} {st : Stmt} {CX : CXT} {N ps : List Str} {k : Nat} {sp : Sp} (F : DefAt K mg x st) (S : FnScope N ps (defScope st))
    (hb : ∀ (kV doc pm : Value) (an : Option Addr) (cdv ct : Value) (us : List Value), us.length = ps.length → bindArgs (PySem.W.fnOf x x (defArgs st) (defBody st) (defScope st) .none kV doc pm an cdv ct) ⟨us, []⟩ = pure (ps.zip us))
    (len : ∀ vs H Q E, sp vs H Q E → vs.length = ps.length)
    (hbody : ∀ (f : Addr) (cdv : Value) (A : Around) (outer : List Env) (s : Shared) (H : Hp) (vs : List V) (Q : VK) (E : XK), Room k (A.deeper (envOfC x (defScope st) s.heap.objs.size f cdv)) → sp vs H Q E →
      ∃ t, PSs (cxOf CX P w K mg base N x (defScope st) f cdv A outer s H E) (defBody st) t ∧ t { nx := fun _ H' => Q .non H', rt := Q } (start N vs) H) : DefOk P w K mg base CX (k + 1) x ps sp := by
  obtain ⟨f, fd, F, g⟩ := F.ex
  exact ⟨f, fd, F.ok S len (fun cdv A outer s H vs Q E => hbody f cdv A outer s H vs Q E), F.bindsN hb, g, F.kp⟩
end
section
variable {X : Cx} {CX : CXT} {k : Nat} {x : Str} {ps : List Str} {sp : Sp} {E : XK} {p pos : Pos} {e : Expr} {es : List Expr} {t : TA}
theorem pe_callD (D : DefOk X.prog X.w X.K X.mg X.base CX k x ps sp) (hr : Room k X.A) (hg : Gl X x) (hx : Passes CX X E) (ha : PA X (e :: es) t)
    (hdb : (x == ("__debug__" : Str)) = false := by decide) (he : starEach (e :: es) X.env = (false, eval e X.env) :: starEach es X.env := by rfl) (hpl : (backTo pos (starEach es X.env)).any (·.1) = false := by rfl) :
    PE X (.Call (.Name x p) (e :: es) [] pos) (tCall sp [] E t) := by
  obtain ⟨f, fd, F, hb, hm, hk⟩ := D.ex
  exact pe_call F hr hg hm hk hb .nil hx ha hdb he hpl
theorem pe_callDS {E : L2.St → XK} (D : DefOk X.prog X.w X.K X.mg X.base CX k x ps sp) (hr : Room k X.A) (hg : Gl X x) (hx : ∀ σ, PassesAt CX X σ (E σ)) (ha : PA X (e :: es) t)
    (hdb : (x == ("__debug__" : Str)) = false := by decide) (he : starEach (e :: es) X.env = (false, eval e X.env) :: starEach es X.env := by rfl) (hpl : (backTo pos (starEach es X.env)).any (·.1) = false := by rfl) :
    PE X (.Call (.Name x p) (e :: es) [] pos) (tCallS sp E t) := by
  obtain ⟨f, fd, F, hb, hm, hk⟩ := D.ex
  exact pe_callS F hr hg hm hk hb hx ha hdb he hpl
end
/-! ### C(), an own exception without own __init__, no arguments -/
theorem pmk_own0 {X : Cx} {C : Addr} {bmB : List Value} {B newId initId : String} {x : Str} {p pos : Pos} (F : ExcBaseFacts B newId initId bmB) (q : PySem.W.excIn X.K C bmB newId = true) (gC : X.mg x = some (.ref C)) (kC : PySem.W.keepIn X.K (.ref C) = true) (r : Raises X (.ref C)) (hg : Gl X x)
    (hdb : (x == ("__debug__" : Str)) = false := by decide) : PMk X (.Call (.Name x p) [] [] pos) (fun _ H Q => Q (.ref C) none H) := by
  intro pins s σ H Q I h
  refine wpAny_Call_Name_kw (ld_glob I hg gC ?_ hdb)
  refine PySem.W.callWith_K0 I.kIn kC ?_
  show wpAny _ _ (call (.ref C) []) _ _ _
  obtain ⟨bm, N, nm, qn, bs, hdct, sn, sub, ab, col, dd, k0, k1, k2, k3, k5, mN, hC, hN, hni, T⟩ := exc_obj I.kIn q
  refine wpAny_call_exc_subT F T hC hN hni (fun h' e hm => ?_) (by show 0 ≤ sizeLine; rw [sizeLine_eq]; omega)
  exact mk_of I hm r h (I.hok.gone hm.new)
structure ExcOk (K : PySem.W.Frag) (mg : Str → Option Value) (x : Str) (C : Addr) : Prop where
  g : mg x = some (.ref C)
  q : PySem.W.excIn K C He.veBase "ValueError.__new__" = true
  k : PySem.W.keepIn K (.ref C) = true
  s : PySem.W.subIn K (.ref C) (.type "BaseException") = some true
  t : PySem.W.typeIn K (.ref C) = some (.type "type")
theorem pmk_x {X : Cx} {C : Addr} {x : Str} {p pos : Pos} (T : ExcOk X.K X.mg x C) (hg : Gl X x) (hdb : (x == ("__debug__" : Str)) = false := by decide) : PMk X (.Call (.Name x p) [] [] pos) (fun _ H Q => Q (.ref C) none H) :=
  pmk_own0 PySem.F.excBase_ValueError T.q T.g T.k (raises_own T.s T.t) hg hdb
/-! ### what stands for good: Same, Gr -/
end Us
namespace L2
open PySem PySem.Spec PyProof.Rows
theorem Same.new {H : Hp} {p : Addr} {o : HO} (h : H p = none) : Same H (upd H p o) := fun b u e => by rw [upd_ne (ne_of_none e h)]; exact e
theorem Same.under {B H : Hp} {p : Addr} {o : HO} (s : Same B H) (h : B p = none) : Same B (upd H p o) := fun b u e => by rw [upd_ne (ne_of_none e h)]; exact s b u e
theorem Same.both {B H : Hp} {p : Addr} {o : HO} (s : Same B H) : Same (upd B p o) (upd H p o) := fun b u e => by
  by_cases hb : b = p
  · subst hb; rw [upd_same] at e ⊢; exact e
  · rw [upd_ne hb] at e ⊢; exact s b u e
end L2
namespace Us
open PySem PySem.Spec PyProof.Rows L2
/-- from (B, H) to (B', H'): B is what stands for good, H all; only the objects at ms are written -/
structure Gr (ms : List Addr) (B H B' H' : Hp) : Prop where
  bb : Same B B'
  bh : Same B' H'
  keep : ∀ b o, b ∉ ms → H b = some o → H' b = some o
  there : ∀ b, H b ≠ none → H' b ≠ none
  old : ∀ b, H b ≠ none → B' b = B b
section
variable {ms ns : List Addr} {B H B1 H1 B2 H2 : Hp} {p : Addr} {o u : HO}
theorem Gr.refl (s : Same B H) : Gr ms B H B H := ⟨Same.refl _, s, fun _ _ _ e => e, fun _ e => e, fun _ _ => rfl⟩
theorem Gr.trans (a : Gr ms B H B1 H1) (b : Gr ms B1 H1 B2 H2) : Gr ms B H B2 H2 :=
  ⟨a.bb.trans b.bb, b.bh, fun c o h e => b.keep c o h (a.keep c o h e), fun c e => b.there c (a.there c e), fun c e => (b.old c (a.there c e)).trans (a.old c e)⟩
theorem Gr.mono (a : Gr ms B H B1 H1) (h : ∀ b ∈ ms, b ∈ ns) : Gr ns B H B1 H1 := ⟨a.bb, a.bh, fun c o hc e => a.keep c o (fun q => hc (h c q)) e, a.there, a.old⟩
theorem Gr.up (a : Gr [] B H B1 H1) : Gr ns B H B1 H1 := a.mono fun _ h => nomatch h
/-- behind it, a step that writes new objects too -/
theorem Gr.trans' (a : Gr ms B H B1 H1) (b : Gr ns B1 H1 B2 H2) (h : ∀ q ∈ ns, q ∈ ms ∨ H q = none) : Gr ms B H B2 H2 :=
  ⟨a.bb.trans b.bb, b.bh, fun c o hc e => b.keep c o (fun q => (h c q).elim hc fun z => by rw [z] at e; cases e) (a.keep c o hc e), fun c e => b.there c (a.there c e), fun c e => (b.old c (a.there c e)).trans (a.old c e)⟩
theorem Gr.bnone (a : Gr ms B H B1 H1) (h : B p = none) (hH : H p = some o) : B1 p = none := (a.old p (by rw [hH]; exact fun z => nomatch z)).trans h
theorem Gr.fresh (a : Gr ms B H B1 H1) (h : H1 p = none) : H p = none := by
  cases e : H p with
  | none => rfl
  | some o => exact absurd h (a.there p (by rw [e]; exact fun z => nomatch z))
theorem bfresh (s : Same B H) (h : H p = none) : B p = none := by
  cases e : B p with
  | none => rfl
  | some o => rw [s p o e] at h; cases h
/-- a new object that stands for good -/
theorem Gr.new (s : Same B H) (h : H p = none) : Gr ms B H (upd B p o) (upd H p o) :=
  ⟨Same.new (bfresh s h), s.both, fun b u _ e => by rw [upd_ne (ne_of_none e h)]; exact e, fun b e => by
    by_cases hb : b = p
    · subst hb; exact absurd h e
    · rw [upd_ne hb]; exact e, fun b e => upd_ne (fun z => by subst z; exact e h)⟩
/-- a new object that is written later -/
theorem Gr.cell (s : Same B H) (h : H p = none) : Gr ms B H B (upd H p o) :=
  ⟨Same.refl _, s.under (bfresh s h), fun b u _ e => by rw [upd_ne (ne_of_none e h)]; exact e, fun b e => by
    by_cases hb : b = p
    · subst hb; exact absurd h e
    · rw [upd_ne hb]; exact e, fun _ _ => rfl⟩
/-- an object is written -/
theorem Gr.set (s : Same B H) (hB : B p = none) (hH : H p = some u) (hm : p ∈ ms) : Gr ms B H B (upd H p o) :=
  ⟨Same.refl _, s.under hB, fun b v hb e => by rw [upd_ne (fun z => hb (by rw [z]; exact hm))]; exact e, fun b e => by
    by_cases hb : b = p
    · subst hb; rw [upd_same]; exact fun z => nomatch z
    · rw [upd_ne hb]; exact e, fun _ _ => rfl⟩
/-- a new object, made by a call -/
theorem Gr.obj (s : Same B H) (hx : H p = none) (k : ∀ b u, H b = some u → H2 b = some u) (e : H2 p = some o) : Gr ms B H (upd B p o) H2 where
  bb := Same.new (bfresh s hx)
  bh := fun b u h => by
    by_cases hb : b = p
    · rw [hb, upd_same] at h
      cases h
      rw [hb]
      exact e
    · rw [upd_ne hb] at h
      exact k _ _ (s b u h)
  keep := fun b u _ h => k b u h
  there := fun b h z => by
    cases q : H b with
    | none => exact h q
    | some u => rw [k b u q] at z; cases z
  old := fun b h => upd_ne (fun z => h (by rw [z]; exact hx))
/-- a new object of ours is written: seen from the entry -/
theorem Gr.setN (g : Gr ms B H B1 H1) (h0 : H p = none) (hB : B1 p = none) : Gr ms B H B1 (upd H1 p o) :=
  ⟨g.bb, g.bh.under hB, fun b v hb e => by rw [upd_ne (ne_of_none e h0)]; exact g.keep b v hb e, fun b e => by
    by_cases hb : b = p
    · subst hb; exact absurd h0 e
    · rw [upd_ne hb]; exact g.there b e, g.old⟩
/-- a new object of ours stands for good from now on -/
theorem Gr.keepN (g : Gr ms B H B1 H1) (h0 : H p = none) (hH : H1 p = some o) (hB : B1 p = none) : Gr ms B H (upd B1 p o) H1 :=
  ⟨fun b u e => by rw [upd_ne (ne_of_none (g.bb b u e) hB)]; exact g.bb b u e, fun b u e => by
    by_cases hb : b = p
    · subst hb; rw [upd_same] at e; cases e; exact hH
    · rw [upd_ne hb] at e; exact g.bh b u e, g.keep, g.there, fun b e => (upd_ne (fun z => by subst z; exact e h0)).trans (g.old b e)⟩
end
/-! ### values of known shape -/
def tyNs : List String := ["tuple", "list", "dict", "int", "bool", "str"]
/-- an own class whose instances are none of these -/
structure OwnC (K : PySem.W.Frag) (C : Addr) : Prop where
  cl : Cls K C
  ha : PySem.W.findIn K (.ref C) "__class__" = some (some (.builtin "object.__class__"))
  hn : PySem.W.specialIn K (.builtin "object.__class__") "__get__" = some (some (.builtin "getset_descriptor.__get__"))
  ht : PySem.W.takesIn K (.builtin "object.__class__") = some true
  hm : PySem.W.mroIn K C (.type "object") = some true
  no : ∀ n ∈ tyNs, PySem.W.kitOne K (.ref C) (.type n) = some false
def ownCB (K : PySem.W.Frag) (C : Addr) : Bool := decide (PySem.W.findIn K (.ref C) "__class__" = some (some (.builtin "object.__class__"))) && (decide (PySem.W.specialIn K (.builtin "object.__class__") "__get__" = some (some (.builtin "getset_descriptor.__get__"))) && (decide (PySem.W.takesIn K (.builtin "object.__class__") = some true) && (decide (PySem.W.mroIn K C (.type "object") = some true) && tyNs.all fun n => decide (PySem.W.kitOne K (.ref C) (.type n) = some false))))
theorem ownC_of {K : PySem.W.Frag} {C : Addr} (cl : Cls K C) (h : ownCB K C = true) : OwnC K C := by
  obtain ⟨h1, h⟩ := He.ba h
  obtain ⟨h2, h⟩ := He.ba h
  obtain ⟨h3, h⟩ := He.ba h
  obtain ⟨h4, h⟩ := He.ba h
  exact ⟨cl, of_decide_eq_true h1, of_decide_eq_true h2, of_decide_eq_true h3, of_decide_eq_true h4, fun n hn => of_decide_eq_true (List.all_eq_true.mp h n hn)⟩
def excCB (K : PySem.W.Frag) (D : Addr) : Bool := decide (PySem.W.findIn K (.ref D) "__getattribute__" = some (some (.builtin "BaseException.__getattribute__"))) && (decide (PySem.W.findIn K (.ref D) "__getattr__" = some none) && (decide (PySem.W.subIn K (.ref D) (.type "BaseException") = some true) && (PySem.W.hasDictIn K D && (decide (PySem.W.findIn K (.ref D) "__class__" = some (some (.builtin "object.__class__"))) && (decide (PySem.W.specialIn K (.builtin "object.__class__") "__get__" = some (some (.builtin "getset_descriptor.__get__"))) && (decide (PySem.W.takesIn K (.builtin "object.__class__") = some true) && decide (PySem.W.mroIn K D (.type "object") = some true)))))))
theorem excC_of {K : PySem.W.Frag} {D : Addr} (h : excCB K D = true) : ExcC K D := by
  obtain ⟨h1, h⟩ := He.ba h
  obtain ⟨h2, h⟩ := He.ba h
  obtain ⟨h3, h⟩ := He.ba h
  obtain ⟨h4, h⟩ := He.ba h
  obtain ⟨h5, h⟩ := He.ba h
  obtain ⟨h6, h⟩ := He.ba h
  obtain ⟨h7, h8⟩ := He.ba h
  exact ⟨of_decide_eq_true h1, of_decide_eq_true h2, of_decide_eq_true h3, h4, of_decide_eq_true h5, of_decide_eq_true h6, of_decide_eq_true h7, of_decide_eq_true h8⟩
inductive Sh (K : PySem.W.Frag) (B : Hp) : V → Prop where
  | non : Sh K B .non
  | bl (b : Bool) : Sh K B (.bl b)
  | int (i : Int) : Sh K B (.int i)
  | str (s : Str) : Sh K B (.str s)
  | tup {p : Addr} {us : List V} (h : B p = some (.tup us)) : Sh K B (.ref p)
  | lst {p : Addr} {us : List V} (h : B p = some (.lst us)) : Sh K B (.ref p)
  | dct {p : Addr} {kvs : List (Key × V)} (h : B p = some (.dK kvs)) : Sh K B (.ref p)
  | ins {p C dx : Addr} {fs : List (Str × V)} (h : B p = some (.ins C dx fs)) (c : OwnC K C) : Sh K B (.ref p)
def shB (B : Hp) (v : V) (n : String) : Bool := match v with
  | .bl _ => n == "bool" || n == "int"
  | .int _ => n == "int"
  | .str _ => n == "str"
  | .ref p => (match B p with
    | some (.tup _) => n == "tuple"
    | some (.lst _) => n == "list"
    | some (.dK _) => n == "dict"
    | _ => false)
  | _ => false
theorem Sh.mono {K : PySem.W.Frag} {B B' : Hp} {v : V} (s : Same B B') (h : Sh K B v) : Sh K B' v := by
  cases h with
  | non => exact .non
  | bl b => exact .bl b
  | int i => exact .int i
  | str z => exact .str z
  | tup h => exact .tup (s _ _ h)
  | lst h => exact .lst (s _ _ h)
  | dct h => exact .dct (s _ _ h)
  | ins h c => exact .ins (s _ _ h) c
theorem shB_mono {K : PySem.W.Frag} {B B' : Hp} {v : V} {n : String} (s : Same B B') (h : Sh K B v) : shB B' v n = shB B v n := by
  cases h with
  | tup h => unfold shB; dsimp only; rw [h, s _ _ h]
  | lst h => unfold shB; dsimp only; rw [h, s _ _ h]
  | dct h => unfold shB; dsimp only; rw [h, s _ _ h]
  | ins h c => unfold shB; dsimp only; rw [h, s _ _ h]
  | _ => rfl
theorem shB_tup {B : Hp} {p : Addr} {us : List V} {n : String} (h : B p = some (.tup us)) : shB B (.ref p) n = (n == "tuple") := by unfold shB; dsimp only; rw [h]
theorem shB_lst {B : Hp} {p : Addr} {us : List V} {n : String} (h : B p = some (.lst us)) : shB B (.ref p) n = (n == "list") := by unfold shB; dsimp only; rw [h]
theorem shB_dct {B : Hp} {p : Addr} {us : List (Key × V)} {n : String} (h : B p = some (.dK us)) : shB B (.ref p) n = (n == "dict") := by unfold shB; dsimp only; rw [h]
theorem shB_ins {B : Hp} {p C dx : Addr} {fs : List (Str × V)} {n : String} (h : B p = some (.ins C dx fs)) : shB B (.ref p) n = false := by unfold shB; dsimp only; rw [h]
theorem sh_ty {K : PySem.W.Frag} {B H : Hp} {v : V} (s : Same B H) (h : Sh K B v) : ∃ t, TyX K H v t ∧ ∀ n ∈ tyNs, PySem.W.kitOne K t (.type n) = some (shB B v n) := by
  cases h with
  | non => exact ⟨_, .base .non, fun n hn => kit_ty (by show kitB "NoneType" n = some false; revert n; decide +kernel)⟩
  | bl b => exact ⟨_, .base (.bl b), fun n hn => kit_ty (by show kitB "bool" n = some (n == "bool" || n == "int"); revert n; decide +kernel)⟩
  | int i => exact ⟨_, .base (.int i), fun n hn => kit_ty (by show kitB "int" n = some (n == "int"); revert n; decide +kernel)⟩
  | str z => exact ⟨_, .base (.str z), fun n hn => kit_ty (by show kitB "str" n = some (n == "str"); revert n; decide +kernel)⟩
  | tup h => exact ⟨_, .base (.tup (s _ _ h)), fun n hn => by rw [shB_tup h]; exact kit_ty (by revert n; decide +kernel)⟩
  | lst h => exact ⟨_, .base (.lst (s _ _ h)), fun n hn => by rw [shB_lst h]; exact kit_ty (by revert n; decide +kernel)⟩
  | dct h => exact ⟨_, .base (.dK (s _ _ h)), fun n hn => by rw [shB_dct h]; exact kit_ty (by revert n; decide +kernel)⟩
  | ins h c => exact ⟨_, .base (.ins (s _ _ h) c.cl c.ha c.hn c.ht c.hm), fun n hn => by rw [shB_ins h]; exact c.no n hn⟩
/-- isinstance(v, T) -/
theorem i_isi {K : PySem.W.Frag} {B H : Hp} {v : V} {n : String} {Q : VK} (s : Same B H) (h : Sh K B v) (q : Q (.bl (shB B v n)) H) (hn : n ∈ tyNs) : rIsi K [v, .ty n] H Q := by
  obtain ⟨t, ht, hk⟩ := sh_ty s h
  exact ⟨v, .ty n, t, _, _, rfl, .ty n, ht, hk n hn, q⟩
/-- isinstance(v, (T1, T2)) -/
theorem i_isiT2 {K : PySem.W.Frag} {B H : Hp} {v : V} {p : Addr} {n m : String} {Q : VK} (s : Same B H) (h : Sh K B v) (hp : H p = some (.tup [.ty n, .ty m])) (q : Q (.bl (shB B v n || shB B v m)) H) (hn : n ∈ tyNs) (hm : m ∈ tyNs) : rIsiT K [v, .ref p] H Q := by
  obtain ⟨t, ht, hk⟩ := sh_ty s h
  refine ⟨v, p, _, t, [.type n, .type m], shB B v n || shB B v m, rfl, hp, .cons (.ty n) (.cons (.ty m) .nil), ht, ?_, q⟩
  refine kitAny_cons (hk n hn) (fun e => ?_) (fun e => ?_)
  · rw [e, Bool.false_or]
    exact kitAny_cons (hk m hm) (fun e => by rw [e]; exact kitAny_nil) (fun e => e)
  · rw [e]; rfl
end Us
set_option maxRecDepth 100000
set_option maxHeartbeats 4000000
/-! rules that the layer lacks: xs.extend(a tuple), t[::-1] of a tuple -/
namespace HT
open PySem PySem.Spec PyProof.Rows
section
variable {prog : Program} {w : World} {A : Around} {E : Value → Shared → Prop} {s : Shared}
theorem places_rev (n : Nat) : Builtin.Slice.slicePlaces ((n : Int) - 1) (-1) (-1) = n := by
  unfold Builtin.Slice.slicePlaces
  have h1 : ¬ ((-1 : Int) > 0) := by omega
  simp only [h1, if_false]
  have e : (-(-1) : Int) = 1 := by decide
  simp only [e, Int.ediv_one]
  split <;> omega
theorem adjust_rev (n : Nat) : Builtin.Slice.sliceAdjust none none (-1) (n : Int) = ((n : Int) - 1, -1) := by
  unfold Builtin.Slice.sliceAdjust
  first
    | rfl
    | (simp; done)
theorem sliceApplied_rev {sl : Addr} {vs : Value} {n : Nat} {Q : Int × Int × Nat → Shared → Prop} (hs : s.heap.IsSliceOf sl .none .none vs) (ps : IsPart vs (some (-1)))
    (h : Q (((n : Int) - 1), -1, n) s) : wpAny (model prog w) A (Builtin.Slice.sliceApplied (.ref sl) (pure (n : Int))) Q E s := by
  obtain ⟨os, hos, hcs, hds⟩ := id hs
  unfold Builtin.Slice.sliceApplied Builtin.Slice.sliceFields
  refine wpAny_bind (wpAny_bind (wpAny_field hos hds (x := .none) rfl (wpAny_bind (wpAny_field hos hds (x := .none) rfl (wpAny_bind (wpAny_field hos hds (x := vs) rfl (wpAny_pure ?_)))))))
  refine wpAny_bind (slicePart_ ps ?_)
  show wpAny _ _ (if ((-1 : Int) == 0) = true then _ else _) _ _ s
  rw [if_neg (by decide)]
  refine wpAny_bind (slicePart_none (wpAny_bind (slicePart_none (wpAny_bind (wpAny_pure ?_)))))
  show wpAny _ _ (match Builtin.Slice.sliceAdjust none none (-1) (n : Int) with | (lo, hi) => pure (lo, (-1 : Int), Builtin.Slice.slicePlaces lo hi (-1))) _ _ s
  rw [adjust_rev n]
  show wpAny _ _ (pure (((n : Int) - 1), (-1 : Int), Builtin.Slice.slicePlaces ((n : Int) - 1) (-1) (-1))) _ _ s
  rw [places_rev]
  exact wpAny_pure h
theorem fm_congr {α β : Type} {f g : α → Option β} : ∀ {l : List α}, (∀ a ∈ l, f a = g a) → l.filterMap f = l.filterMap g
  | [], _ => rfl
  | a :: r, h => by
    rw [List.filterMap_cons, List.filterMap_cons, h a List.mem_cons_self, fm_congr fun b hb => h b (List.mem_cons_of_mem _ hb)]
theorem pick_rev (xs : Array Value) : ((List.range xs.size).filterMap fun (m : Nat) => xs[((((xs.size : Nat) : Int) - 1) + (m : Int) * (-1)).toNat]?).toArray = xs.toList.reverse.toArray := by
  have e2 : (List.range xs.size).filterMap (fun (m : Nat) => xs[((((xs.size : Nat) : Int) - 1) + (m : Int) * (-1)).toNat]?) = (List.range xs.size).filterMap ((fun (k : Nat) => xs[k]?) ∘ fun k => xs.size - 1 - k) := by
    refine fm_congr fun m hm => ?_
    have hl := List.mem_range.mp hm
    have : ((((xs.size : Nat) : Int) - 1) + (m : Int) * (-1)).toNat = xs.size - 1 - m := by omega
    rw [this]
    rfl
  rw [e2, ← List.filterMap_map, PySem.W.krv_range, List.filterMap_reverse, PySem.W.krv_all]
theorem getItem_tuple_rev {t sl : Addr} {items : Array Value} {vs : Value} {Q : Value → Shared → Prop} (ht : IsTup s.heap t items) (hs : s.heap.IsSliceOf sl .none .none vs) (ps : IsPart vs (some (-1)))
    (h : Q (.ref s.heap.objs.size) { s with heap := s.heap.push { cls := .type "tuple", data := .seq items.toList.reverse.toArray } })
    (hsz : items.size ≤ sizeLine) : wpAny (model prog w) A (getItem (.ref t) (.ref sl)) Q E s := by
  have htake : sizeOk (.seq items.toList.reverse.toArray) := by
    show items.toList.reverse.toArray.size ≤ sizeLine
    rw [List.size_toArray, List.length_reverse, Array.length_toList]
    exact hsz
  obtain ⟨os, hos, hcs, hds⟩ := id hs
  have hTs : s.TypeIs (.ref sl) "slice" := ⟨os, hos, hcs⟩
  unfold getItem
  try with_reducible refine wpAny_holding ?_
  first | refine wpAny_bind (wpAny_pure ?_) | skip
  refine wpAny_bind (wpAny_sequenceKey ht.typeIs (by decide) ?_)
  refine wpAny_bind (wpAny_callSpecial?_slot (name := Str.ofString "__getitem__") ht.typeIs PyProof.Rows.slot_tuple_getitem
    (wpAny_call_entry PyProof.Rows.slot_tuple_getitem ht.typeIs entry_tuple_getitem ?_ (args_tuple_getitem _ _)))
  show wpAny _ _ (Builtin.Tuple.tupleItemsOf (.ref t) >>= _) _ _ s
  refine wpAny_bind (tupleItemsOf_ ht ?_)
  refine wpAny_bind (wpAny_typeOf hTs ?_)
  rw [if_pos (by decide)]
  refine wpAny_bind (sliceApplied_rev hs ps ?_)
  have hno : ¬ (((((items.size : Nat) : Int) - 1) == 0 && (-1 : Int) == 1 && items.size == items.size) = true) := by
    intro q
    rw [Bool.and_eq_true, Bool.and_eq_true] at q
    have q1 : ((-1 : Int) == 1) = true := q.1.2
    exact absurd q1 (by decide)
  show wpAny _ _ (if ((((items.size : Nat) : Int) - 1) == 0 && (-1 : Int) == 1 && items.size == items.size) = true then _ else _) _ _ s
  rw [if_neg hno, pick_rev]
  first
    | exact wpAny_bind (m := Builtin.Tuple.tupleExact _) (wpAny_newObj_type (wpAny_pure ⟨_, rfl, wpAny_pure h⟩) htake)
    | exact wpAny_bind (m := Builtin.Tuple.tupleExact _) (wpAny_newObj_type (wpAny_bind (wpAny_pure (wpAny_pure ⟨_, rfl, wpAny_pure h⟩))) htake)
    | exact wpAny_bind (wpAny_bind (m := Builtin.Tuple.tupleExact _) (wpAny_newObj_type (wpAny_pure (wpAny_pure ⟨_, rfl, wpAny_pure h⟩)) htake))
    | exact wpAny_bind (wpAny_bind (m := Builtin.Tuple.tupleExact _) (wpAny_newObj_type (wpAny_pure ⟨_, rfl, wpAny_pure h⟩) htake))
end
end HT
namespace Us
open PySem PySem.Spec PyProof.Rows L2
open PySem.AutoSeq1 in
set_option maxRecDepth 8000 in
theorem list_extend_tupW (l : Addr) (items : Array Value) (n : Nat) (b : Addr) (items2 : Array Value) (n2 : Nat) (dd : Option Addr) (sl : Array (Option Value)) (hs0 : ¬(!items.isEmpty && Builtin.List.listTooLong (items.size + items2.size)) = true) (hs1 : items.size ≤ sizeLine) (hs2 : items.size + items2.size ≤ sizeLine + 1) :
    Meets (Builtin.«list.extend» ⟨[.ref l, .ref b], []⟩) (fun _ R s => s.heap.get? l = some { cls := .type "list", dict := none, data := .seq items n, slots := #[] } ∧ s.heap.get? b = some { cls := .type "tuple", dict := dd, data := .seq items2 n2, slots := sl } ∧ R (.ok (.ret Value.none)) { s with heap := s.heap.update l (Obj.mapSeq fun x => x ++ items2), toks := s.toks }) :=
  .of_wp fun prog w A R s h => by
    obtain ⟨hp, g, d, tk, os⟩ := s; obtain ⟨hl, hb, h⟩ := h; have f1 := idx_int; have f2 := PySem.AutoSeq1.sub_tuple_tuple; have f3 := PySem.AutoSeq1.sub_list_list; have f4 := PySem.AutoSeq1.sub_tuple_list; have f5 := PySem.AutoSeq1.sub_list_tuple;
    have hz' : (items ++ items2).size ≤ sizeLine + 1 := by rw [Array.size_append]; exact hs2
    wp_walk using (wpAny_updateSeq hl rfl (hz := hs1) (_hz' := hz')), wpAny_loadPart' hl, wpAny_loadPart' hb; exact ⟨_, rfl, h⟩
section
variable {X : Cx}
def tRevT (K : PySem.W.Frag) (te : TE) : TE := fun σ H Q => te σ H fun x H1 => ∃ a xs, x = .ref a ∧ SqT K H1 a xs ∧ ∀ p, H1 p = none → Q (.ref p) (upd H1 p (.tup xs.reverse))
theorem pe_revT {e : Expr} {te : TE} {k : Nat} {p1 p2 p3 pos : Pos} (he : PE X e te) : PE X (.Subscript e (.Slice none none (some (.UnaryOp .USub (.Constant (.int 1) k p1) p2)) p3) pos) (tRevT X.K te) := by
  refine ⟨fun pins s σ H Q I h => ?_⟩
  refine Subscript_ (thn (he.run pins s σ H _ I h) fun v s1 ⟨x, H1, I1, r1, q1⟩ => ?_)
  obtain ⟨a, xs, ex, hx, q⟩ := q1
  subst ex
  cases r1
  have hst : PO X (some (.UnaryOp .USub (.Constant (.int 1) k p1) p2)) (tPart (tUn (rU fun i => .int (-i)) (tC (.int 1)))) := po_some (pe_un un_neg pe_int)
  refine wpAny_Slice (thn (po_none.run pins s1 σ H1 (fun o H2 => o = none ∧ H2 = H1) I1 ⟨rfl, rfl⟩) fun vl s2 ⟨l, H2, I2, pl, el, e2⟩ => ?_)
  subst el e2
  refine thn (po_none.run pins s2 σ H2 (fun o H3 => o = none ∧ H3 = H2) I2 ⟨rfl, rfl⟩) fun vu s3 ⟨u, H3, I3, pu, eu, e3⟩ => ?_
  subst eu e3
  refine thn (hst.run pins s3 σ H3 (fun o H4 => o = some (-1) ∧ H4 = H3) I3 ⟨1, rfl, -1, rfl, rfl, rfl⟩) fun vs s4 ⟨o, H4, I4, ps, eo, e4⟩ => ?_
  subst eo e4
  cases pl
  cases pu
  have I5 : Inv X pins σ H4 { s4 with heap := s4.heap.push { cls := .type "slice", data := .fields #[.none, .none, vs] } } := I4.kept (t' := s4.toks) fun b ob q => Heap.get?_push_of_some _ q
  obtain ⟨its, r, ht, hz⟩ := I5.tuple hx
  have hlen := r.length
  show wpAny (model X.prog X.w) X.A (subscriptTail e (.Slice none none (some (.UnaryOp .USub (.Constant (.int 1) k p1) p2)) p3) (.ref a) (.ref s4.heap.objs.size)) (EP X pins σ Q) X.xe { s4 with heap := s4.heap.push { cls := .type "slice", data := .fields #[.none, .none, vs] } }
  refine tail_any (ops := [.ref a, .ref s4.heap.objs.size]) ht.typeIs (PyProof.Rows.slot_tuple_getitem.lookup) ?_ (by with_unfolding_all rfl)
  refine HT.getItem_tuple_rev ht (Heap.IsSliceOf.new _ .none .none vs) ps ?_ (by rw [List.size_toArray]; omega)
  refine ⟨.ref _, _, I5.laid (t' := s4.toks) (o := .tup xs.reverse) (fun b ob q => Heap.get?_push_of_some _ q) (Nat.le_refl _) ?_, rfl, q _ (I5.hok.fresh (Nat.le_refl _))⟩
  exact ⟨by rw [List.length_reverse]; exact hz, _, r.reverse, _, Heap.get?_push_size _ rfl, rfl, _, rfl⟩
def rExtT (K : PySem.W.Frag) : V → List V → Hp → VK → Prop := fun x vs H Q => ∃ l b xs zs, x = .ref l ∧ vs = [.ref b] ∧ H l = some (.lst xs) ∧ SqT K H b zs ∧ xs.length + zs.length ≤ sizeLine ∧ Q .non (upd H l (.lst (xs ++ zs)))
theorem mt_extendT : MtM X "list.extend" (rExtT X.K) := by
  intro pins s σ H x vs v us Q I rx rv h
  obtain ⟨l, b, xs, zs, rfl, rfl, hH, hB, hz, q⟩ := h
  cases rx
  obtain ⟨u, rfl, ru⟩ := rv.one
  cases ru
  obtain ⟨z, its, n, r, hl, e⟩ := I.lstM hH
  obtain ⟨its2, r2, ht, hz2⟩ := I.tuple hB
  obtain ⟨⟨cls2, dd2, data2, sl2⟩, ho2, hc2, n2, hd2⟩ := id ht
  simp only at hc2 hd2
  subst hc2 hd2
  have l2 := r2.length
  have hsz : its.toArray.size + its2.toArray.size ≤ sizeLine := by rw [List.size_toArray, List.size_toArray]; omega
  have hlong : ¬ (!its.toArray.isEmpty && Builtin.List.listTooLong (its.toArray.size + its2.toArray.size)) = true := by
    rw [notLongL hsz, Bool.and_false]
    exact Bool.false_ne_true
  refine call_meets PySem.F.slot_list_extend ⟨_, e, rfl⟩ PySem.F.entry_list_extend (PySem.F.args_list_extend_2 _ _)
    (list_extend_tupW l its.toArray n b its2.toArray n2 dd2 sl2 hlong (by rw [List.size_toArray]; omega) (by omega)) ⟨e, ho2, ?_⟩
  refine ⟨.non, _, I.lset (its' := its ++ its2) hH e (by simp) (r.append r2) ?_, rfl, q⟩
  rw [List.length_append]
  omega
/-- set(t), t a tuple of ints -/
def rSetTI (K : PySem.W.Frag) (w : World) : List V → Hp → VK → Prop := fun xs H Q => ∃ (p : Addr) (ns : List Int), xs = [.ref p] ∧ SqT K H p (ns.map V.int) ∧ ns.length ≤ 1000 ∧ ∀ q c, H q = none → c ≤ ns.length → Q (.ref q) (upd H q (SetO w q (fun j => decide (j ∈ ns)) c))
theorem call_setTI (hc : X.calm = true) : CallR X (.type "set") (rSetTI X.K X.w) := by
  intro pins s σ H xs us Q I r h
  obtain ⟨p, ns, rfl, hq, hl, q⟩ := h
  cases r with
  | cons r rr =>
    cases rr
    cases r
    obtain ⟨its, rv, pt, hz⟩ := I.tuple hq
    have hi : IntsAre its.toArray.toList ns := ints_of_vals rv
    refine call_set_tupI ns (I.ok.hd hc) (show s.heap.IsTuple p its.toArray from pt) hi (by unfold scanBound; omega) fun h' tk c R1 hcn k => ?_
    have hn : H s.heap.objs.size = none := I.hok.fresh (Nat.le_refl _)
    exact ⟨.ref _, upd H s.heap.objs.size (SetO X.w s.heap.objs.size (fun j => decide (j ∈ ns)) c), I.laid (t' := tk) k (Nat.le_refl _) (setO_new R1), rfl, q _ _ hn hcn⟩
end
end Us
set_option maxRecDepth 100000
set_option maxHeartbeats 2000000
/-! the readings, a step each -/
namespace Us
open PySem PySem.Spec PyProof.Rows L2
section
variable {X : Cx}
def rLenU (K : PySem.W.Frag) : List V → Hp → VK → Prop := fun xs H Q => ∃ p ys, xs = [.ref p] ∧ (SqL K H p ys ∨ SqT K H p ys) ∧ Q (.int ys.length) H
theorem call_lenU : CallR X (.builtin "len") (rLenU X.K) := call_len_seq
def rLenS : List V → Hp → VK → Prop := fun xs H Q => ∃ z, xs = [.str z] ∧ z.length ≤ sizeLine ∧ Q (.int z.length) H
theorem call_lenS : CallR X (.builtin "len") rLenS := call_len_str
def rIntU : List V → Hp → VK → Prop := fun xs H Q => (∃ i, xs = [.int i] ∧ Q (.int i) H) ∨ ∃ k, xs = [.bl k] ∧ Q (.int (if k then 1 else 0)) H
theorem call_intU : CallR X (.type "int") rIntU := call_int1
def rAbsU : List V → Hp → VK → Prop := fun xs H Q => ∃ i, xs = [.int i] ∧ Q (.int (if i < 0 then -i else i)) H
theorem call_absU : CallR X (.builtin "abs") rAbsU := call_abs
def rIsNU : R2 := fun x y H Q => y = .non ∧ Q (.bl (decide (x = .non))) H
theorem op_isNU : OpR X (compareOp .Is) rIsNU := op_isN
def rNotNU : R2 := fun x y H Q => y = .non ∧ Q (.bl (!decide (x = .non))) H
theorem op_notNU : OpR X (compareOp .IsNot) rNotNU := op_notN
def rListU (K : PySem.W.Frag) : List V → Hp → VK → Prop := fun xs H Q => ∃ p ys, xs = [.ref p] ∧ (SqL K H p ys ∨ SqT K H p ys) ∧ ∀ l, H l = none → Q (.ref l) (upd H l (.lst ys))
theorem call_listU : CallR X (.type "list") (rListU X.K) := call_list_of
def rTupU (K : PySem.W.Frag) : List V → Hp → VK → Prop := fun xs H Q => ∃ p ys, xs = [.ref p] ∧ ((SqL K H p ys ∧ ∀ l, H l = none → Q (.ref l) (upd H l (.tup ys))) ∨ (SqT K H p ys ∧ Q (.ref p) H))
theorem call_tupU : CallR X (.type "tuple") (rTupU X.K) := call_tuple_of
end
section
variable {K : PySem.W.Frag} {σ : L2.St} {H : Hp} {Q : VK} {D : Ends} {i : Nat} {v x y : V} {ta tb tc te : TE} {t u : TS} {tt tu : TT} {tr : TA} {g : TG}
theorem i_seq (h : t { D with nx := u D } σ H) : tSeq t u D σ H := h
theorem i_asg (h : te σ H fun x H1 => g x σ H1 D.nx) : tAsg te g D σ H := h
theorem i_ret (h : te σ H D.rt) : tRet te D σ H := h
theorem i_retN (h : D.rt .non H) : tRetN D σ H := h
theorem i_ifS (h : tt σ H fun b H1 => if b = true then t D σ H1 else u D σ H1) : tIfS tt t u D σ H := h
theorem i_drop (h : te σ H fun _ H1 => D.nx σ H1) : tDrop te D σ H := h
theorem i_next (h : D.nx σ H) : tNext D σ H := h
theorem i_name {Q : L2.St → Hp → Prop} (h : Q (σ.set i (some v)) H) : gName i v σ H Q := h
theorem i_var (h : σ[i]? = some (some v)) (q : Q v H) : tVar i σ H Q := ⟨v, h, q⟩
theorem i_c (q : Q v H) : tC v σ H Q := q
theorem i_op {r : R2} (h : ta σ H fun x H1 => tb σ H1 fun y H2 => r x y H2 Q) : tOp r ta tb σ H Q := h
theorem i_un {r : V → Hp → VK → Prop} (h : ta σ H fun x H1 => r x H1 Q) : tUn r ta σ H Q := h
theorem i_nil {Q : List V → Hp → Prop} (q : Q [] H) : tNil σ H Q := q
theorem i_cons {Q : List V → Hp → Prop} (h : ta σ H fun x H1 => tr σ H1 fun xs H2 => Q (x :: xs) H2) : tCons ta tr σ H Q := h
theorem i_call {sp : Sp} {E : XK} (h : tr σ H fun vs H1 => sp (vs ++ []) H1 Q E) : tCall sp [] E tr σ H Q := h
theorem i_callS {sp : Sp} {E : L2.St → XK} (h : tr σ H fun vs H1 => sp vs H1 Q (E σ)) : tCallS sp E tr σ H Q := h
theorem i_cb {r : List V → Hp → VK → Prop} (h : tr σ H fun vs H1 => r vs H1 Q) : tCB r tr σ H Q := h
theorem i_tup (h : tr σ H fun xs H1 => xs.length ≤ sizeLine ∧ ∀ p, H1 p = none → Q (.ref p) (upd H1 p (.tup xs))) : tTup tr σ H Q := h
theorem i_lst (h : tr σ H fun xs H1 => xs.length ≤ sizeLine ∧ ∀ p, H1 p = none → Q (.ref p) (upd H1 p (.lst xs))) : tLst tr σ H Q := h
theorem i_b {Q : Bool → Hp → Prop} (h : te σ H fun x H1 => ∃ c, x = .bl c ∧ Q c H1) : tB te σ H Q := h
theorem i_test {Q : Bool → Hp → Prop} (h : te σ H fun x H1 => ∃ c, x = .bl c ∧ Q c H1) : tTest te σ H Q := h
theorem i_and {Q : Bool → Hp → Prop} (h : tt σ H fun c H1 => if c = true then tu σ H1 Q else Q false H1) : tAnd tt tu σ H Q := h
theorem i_or {Q : Bool → Hp → Prop} (h : tt σ H fun c H1 => if c = true then Q true H1 else tu σ H1 Q) : tOr tt tu σ H Q := h
theorem i_not {Q : Bool → Hp → Prop} (h : tt σ H fun c H1 => Q (!c) H1) : tNot tt σ H Q := h
theorem i_yes {Q : Bool → Hp → Prop} (h : Q true H) : tYes σ H Q := h
theorem i_if (h : tt σ H fun c H1 => if c = true then ta σ H1 Q else tb σ H1 Q) : tIf tt ta tb σ H Q := h
theorem i_andV (h : ta σ H fun x H1 => ∃ c, x = .bl c ∧ if c = true then tb σ H1 Q else Q (.bl false) H1) : tAndV ta tb σ H Q := h
theorem i_orV (h : ta σ H fun x H1 => ∃ c, x = .bl c ∧ if c = true then Q (.bl true) H1 else tb σ H1 Q) : tOrV ta tb σ H Q := h
theorem i_notV (h : ta σ H fun x H1 => ∃ c, x = .bl c ∧ Q (.bl (!c)) H1) : tNotV ta σ H Q := h
theorem i_chain {r r' : R2} (h : ta σ H fun x H1 => tb σ H1 fun y H2 => r x y H2 fun z H3 => ∃ k, z = .bl k ∧ (if k = true then tc σ H3 fun w' H4 => r' y w' H4 Q else Q (.bl false) H3)) : tChain r r' ta tb tc σ H Q := h
theorem i_bm0 {T : String} {r : V → List V → Hp → VK → Prop} (h : te σ H fun x H1 => tyV K T x H1 ∧ r x [] H1 Q) : tBM0 K T r te σ H Q := h
theorem i_bm {T : String} {r : V → List V → Hp → VK → Prop} (h : te σ H fun x H1 => tyV K T x H1 ∧ tr σ H1 fun xs H2 => r x xs H2 Q) : tBM K T r te tr σ H Q := h
theorem i_sl {r : V → Option Int → Option Int → Hp → VK → Prop} {tl th : TO} (h : te σ H fun x H1 => tl σ H1 fun l H2 => th σ H2 fun u H3 => r x l u H3 Q) : tSl r te tl th σ H Q := h
theorem i_noPart {Q : Option Int → Hp → Prop} (q : Q none H) : tNoPart σ H Q := q
theorem i_part {Q : Option Int → Hp → Prop} (h : te σ H fun x H1 => ∃ i, x = .int i ∧ Q (some i) H1) : tPart te σ H Q := h
theorem i_sub {to ti : TE} {ts : TSet} {Q : L2.St → Hp → Prop} (h : to σ H fun o H1 => ti σ H1 fun i H2 => ts o i v H2 fun H3 => Q σ H3) : gSub to ti ts v σ H Q := h
theorem i_gtup {n : Nat} {t : TGs} {a : Addr} {xs : List V} {Q : L2.St → Hp → Prop} (h : SqT K H a xs) (e : xs.length = n) (q : t xs σ H Q) : gTup K n t (.ref a) σ H Q := ⟨a, xs, rfl, h, e, q⟩
theorem i_gcons {t : TG} {u : TGs} {r : List V} {Q : L2.St → Hp → Prop} (q : t v σ H fun σ' H' => u r σ' H' Q) : gCons t u (v :: r) σ H Q := ⟨v, r, rfl, q⟩
theorem i_gnil {Q : L2.St → Hp → Prop} (q : Q σ H) : gNil [] σ H Q := ⟨rfl, q⟩
theorem i_aug {ti : TIp} (h : σ[i]? = some (some x)) (q : te σ H fun y H1 => ti x y H1 fun z H2 => D.nx (σ.set i (some z)) H2) : tAug i te ti D σ H := ⟨x, h, q⟩
theorem i_par {j : Nat} {ta : TA} (h : ta σ H fun vs H1 => ∃ v w, vs = [v, w] ∧ D.nx ((σ.set i (some v)).set j (some w)) H1) : tPar i j ta D σ H := h
theorem i_two {a b : V} {P : V → V → Prop} (h : P a b) : ∃ v w, [a, b] = [v, w] ∧ P v w := ⟨a, b, rfl, h⟩
theorem i_iTup {R : It → Hp → Prop} (h : te σ H fun x H1 => ∃ a, x = .ref a ∧ (∃ xs, SqT K H1 a xs) ∧ R (Itt K a) H1) : iTup K te σ H R := h
theorem i_iList {R : It → Hp → Prop} (h : te σ H fun x H1 => ∃ a, x = .ref a ∧ (∃ xs, SqL K H1 a xs) ∧ R (Itl K a) H1) : iList K te σ H R := h
theorem i_iRng1 {R : It → Hp → Prop} (h : tr σ H fun vs H1 => ∃ j : Int, vs = [.int j] ∧ -(2 ^ 62) ≤ j ∧ j < 2 ^ 62 ∧ R (Itr 0 j.toNat) H1) : iRng1 tr σ H R := h
theorem i_revT (h : te σ H fun x H1 => ∃ a xs, x = .ref a ∧ SqT K H1 a xs ∧ ∀ p, H1 p = none → Q (.ref p) (upd H1 p (.tup xs.reverse))) : tRevT K te σ H Q := h
theorem i_for {wi : TI} {tb : TS} (h : wi σ H fun J H1 => ∃ W : Nat → Nat → L2.St → Hp → Prop, (∃ m, W 0 m σ H1) ∧ ∀ i m σ H, W i m σ H →
  (J.stop i H ∧ D.nx σ H) ∨ (J.go i H ∧ ∃ N : L2.St → Hp → Prop, (∀ σ' H', N σ' H' → ∃ m', m' < m ∧ W (i + 1) m' σ' H') ∧ ∀ x H', J.yld i H x H' → g x σ H' fun σ2 H2 => tb { D with nx := N, ct := N, bk := D.nx } σ2 H2)) : tFor wi g tb D σ H := h
theorem i_lc {wi : TI} {vs : List Nat} (h : wi σ H fun J H1 => ∀ D, H1 D = none → ∃ W : Nat → Nat → Hp → Prop, (∃ m, W 0 m (upd H1 D (.lst []))) ∧ ∀ i m H, W i m H →
  (J.stop i H ∧ Q (.ref D) H) ∨ (J.go i H ∧ ∃ Nx : Hp → Prop, (∀ H', Nx H' → ∃ m', m' < m ∧ W (i + 1) m' H') ∧ ∀ x H', J.yld i H x H' → g x (wipe σ vs) H' fun σ2 H2 => wipe σ2 vs = wipe σ vs ∧ tt σ2 H2 fun b H3 =>
    if b = true then te σ2 H3 fun y H4 => ∃ acc, H4 D = some (.lst acc) ∧ acc.length < sizeLine ∧ Nx (upd H4 D (.lst (acc ++ [y]))) else Nx H3)) : tLc wi g tt te vs σ H Q := h
theorem i_ixA {p : Addr} {us : List V} {j : Int} (h : H p = some (.tup us) ∨ H p = some (.lst us)) (a : atI us j = some v) (q : Q v H) : rIx K (.ref p) (.int j) H Q := by
  rcases h with h | h
  · exact .inr (.inl ⟨p, us, j, v, rfl, rfl, SqT.of h, a, q⟩)
  · exact .inl ⟨p, us, j, v, rfl, rfl, SqL.of h, a, q⟩
theorem i_lenA {p : Addr} {us : List V} (h : H p = some (.tup us) ∨ H p = some (.lst us)) (q : Q (.int us.length) H) : rLenU K [V.ref p] H Q := by
  rcases h with h | h
  · exact ⟨p, us, rfl, .inr (SqT.of h), q⟩
  · exact ⟨p, us, rfl, .inl (SqL.of h), q⟩
theorem i_setF {tv : TE} {f : Str} (h : tv σ H fun y H1 => ta σ H1 fun x H2 => ∃ a C dx fs, x = .ref a ∧ H2 a = some (.ins C dx fs) ∧ Cls K C ∧ NoAttr K C f ∧ fs.length < 1000 ∧ D.nx σ (upd H2 a (.ins C dx (putF f y fs)))) : sFld K ta tv f D σ H := h
theorem i_getF {f : Str} (h : ta σ H fun x H1 => ∃ a C dx fs v, x = .ref a ∧ H1 a = some (.ins C dx fs) ∧ Cls K C ∧ NoAttr K C f ∧ fs.lookup f = some v ∧ Q v H1) : tFld K ta f σ H Q := h
theorem i_meth {C : Addr} {m : Str} {sp : Sp} {dvs : List V} {E : XK} (h : ta σ H fun x H1 => ∃ a dx fs, x = .ref a ∧ H1 a = some (.ins C dx fs) ∧ fs.lookup m = none ∧ tr σ H1 fun vs H2 => sp (x :: (vs ++ dvs)) H2 Q E) : tMeth C m sp dvs E ta tr σ H Q := h
theorem i_make {C : Addr} {sp : Sp} {dvs : List V} {E : XK} (h : tr σ H fun vs H1 => ∀ x dx, H1 x = none → H1 dx = none → dx ≠ x → sp (.ref x :: (vs ++ dvs)) (upd (upd H1 dx (.own x)) x (.ins C dx [])) (fun v H2 => v = .non ∧ Q (.ref x) H2) E) : tMake C sp dvs E tr σ H Q := h
theorem i_bl {b : Bool} {P : Bool → Prop} (h : P b) : ∃ c, V.bl b = .bl c ∧ P c := ⟨b, rfl, h⟩
theorem i_int {b : Int} {P : Int → Prop} (h : P b) : ∃ c, V.int b = .int c ∧ P c := ⟨b, rfl, h⟩
theorem i_rI0 {g : Int → Int → V} {a b : Int} (q : Q (g a b) H) : rI0 g (.int a) (.int b) H Q := ⟨a, b, rfl, rfl, q⟩
theorem i_rI {C : Int → Int → Prop} {g : Int → Int → V} {a b : Int} (c : C a b) (q : Q (g a b) H) : rI C g (.int a) (.int b) H Q := ⟨a, b, rfl, rfl, c, q⟩
theorem i_rU {g : Int → V} {a : Int} (q : Q (g a) H) : rU g (.int a) H Q := ⟨a, rfl, q⟩
theorem i_eq (h : scal x y = true) (q : Q (.bl (decide (x = y))) H) : rEq x y H Q := ⟨h, q⟩
theorem i_ne (h : scal x y = true) (q : Q (.bl (!decide (x = y))) H) : rNe x y H Q := ⟨h, q⟩
theorem i_ixL {p : Addr} {xs : List V} {j : Int} (h : SqL K H p xs) (a : atI xs j = some v) (q : Q v H) : rIxL K (.ref p) (.int j) H Q := ⟨p, xs, j, v, rfl, rfl, h, a, q⟩
theorem i_ixT {p : Addr} {xs : List V} {j : Int} (h : SqT K H p xs) (a : atI xs j = some v) (q : Q v H) : rIxT K (.ref p) (.int j) H Q := ⟨p, xs, j, v, rfl, rfl, h, a, q⟩
theorem i_lenL {p : Addr} {xs : List V} (h : SqL K H p xs) (q : Q (.int xs.length) H) : rLenU K [V.ref p] H Q := ⟨p, xs, rfl, .inl h, q⟩
theorem i_lenT {p : Addr} {xs : List V} (h : SqT K H p xs) (q : Q (.int xs.length) H) : rLenU K [V.ref p] H Q := ⟨p, xs, rfl, .inr h, q⟩
theorem i_lenS {z : Str} (h : z.length ≤ sizeLine) (q : Q (.int z.length) H) : rLenS [V.str z] H Q := ⟨z, rfl, h, q⟩
theorem i_intI {a : Int} (q : Q (.int a) H) : rIntU [V.int a] H Q := .inl ⟨a, rfl, q⟩
theorem i_intB {b : Bool} (q : Q (.int (if b then 1 else 0)) H) : rIntU [V.bl b] H Q := .inr ⟨b, rfl, q⟩
theorem i_abs {a : Int} (q : Q (.int (if a < 0 then -a else a)) H) : rAbsU [V.int a] H Q := ⟨a, rfl, q⟩
theorem i_isN (q : Q (.bl (decide (x = .non))) H) : rIsNU x .non H Q := ⟨rfl, q⟩
theorem i_notN (q : Q (.bl (!decide (x = .non))) H) : rNotNU x .non H Q := ⟨rfl, q⟩
theorem i_listL {p : Addr} {xs : List V} (h : SqL K H p xs) (q : ∀ l, H l = none → Q (.ref l) (upd H l (.lst xs))) : rListU K [V.ref p] H Q := ⟨p, xs, rfl, .inl h, q⟩
theorem i_listT {p : Addr} {xs : List V} (h : SqT K H p xs) (q : ∀ l, H l = none → Q (.ref l) (upd H l (.lst xs))) : rListU K [V.ref p] H Q := ⟨p, xs, rfl, .inr h, q⟩
theorem i_tupL {p : Addr} {xs : List V} (h : SqL K H p xs) (q : ∀ l, H l = none → Q (.ref l) (upd H l (.tup xs))) : rTupU K [V.ref p] H Q := ⟨p, xs, rfl, .inl ⟨h, q⟩⟩
theorem i_tupT {p : Addr} {xs : List V} (h : SqT K H p xs) (q : Q (.ref p) H) : rTupU K [V.ref p] H Q := ⟨p, xs, rfl, .inr ⟨h, q⟩⟩
theorem tyL {p : Addr} {xs : List V} (h : H p = some (.lst xs)) : tyV K "list" (.ref p) H := .inl ⟨rfl, _, SqL.of h⟩
theorem i_pop {p : Addr} {xs : List V} (h : H p = some (.lst xs)) (hy : xs[xs.length - 1]? = some y) (q : Q y (upd H p (.lst xs.dropLast))) : tyV K "list" (.ref p) H ∧ rPop (.ref p) [] H Q := ⟨tyL h, p, xs, y, rfl, rfl, h, hy, q⟩
theorem i_app {p : Addr} {xs : List V} (h : H p = some (.lst xs)) (hz : xs.length < sizeLine) (q : Q .non (upd H p (.lst (xs ++ [y])))) : rAppend (.ref p) [y] H Q := ⟨p, xs, y, rfl, rfl, h, hz, q⟩
theorem i_extT {p b : Addr} {xs zs : List V} (h : H p = some (.lst xs)) (hb : SqT K H b zs) (hz : xs.length + zs.length ≤ sizeLine) (q : Q .non (upd H p (.lst (xs ++ zs)))) : rExtT K (.ref p) [.ref b] H Q := ⟨p, b, xs, zs, rfl, rfl, h, hb, hz, q⟩
theorem i_setL {p : Addr} {xs : List V} {k : Int} {j : Nat} {Q : Hp → Prop} (h : H p = some (.lst xs)) (hj : ixN xs.length k = some j) (q : Q (upd H p (.lst (xs.set j v)))) : rSetL (.ref p) (.int k) v H Q := ⟨p, xs, k, j, rfl, rfl, h, hj, q⟩
theorem i_all {p : Addr} {bs : List Bool} (h : SqL K H p (bs.map V.bl)) (q : Q (.bl (bs.all id)) H) : rAll K [.ref p] H Q := ⟨p, bs, rfl, h, q⟩
theorem i_any {p : Addr} {bs : List Bool} (h : SqL K H p (bs.map V.bl)) (q : Q (.bl (bs.any id)) H) : rAny K [.ref p] H Q := ⟨p, bs, rfl, h, q⟩
/-- a display: the new object, then all behind is of the heap with it -/
theorem i_mk {p' : List V} {o : HO} (hz : p'.length ≤ sizeLine) (q : ∀ p, H p = none → Q (.ref p) (upd H p o)) : p'.length ≤ sizeLine ∧ ∀ p, H p = none → Q (.ref p) (upd H p o) := ⟨hz, q⟩
end
theorem i_while {c : TT} {tb : TS} {D : Ends} {σ : L2.St} {H : Hp} (W : Nat → L2.St → Hp → Prop) (m0 : Nat) (h0 : W m0 σ H)
    (hs : ∀ m σ H, W m σ H → c σ H fun b H1 => if b = true then ∃ N : L2.St → Hp → Prop, (∀ σ' H', N σ' H' → ∃ m', m' < m ∧ W m' σ' H') ∧ tb { D with nx := N, ct := N, bk := D.nx } σ H1 else D.nx σ H1) : tWhile c tb D σ H := ⟨W, ⟨m0, h0⟩, hs⟩
theorem i_turn {W : Nat → L2.St → Hp → Prop} {tb : TS} {D : Ends} {σ : L2.St} {H : Hp} {m : Nat} (h : tb { D with nx := fun σ' H' => ∃ m', m' < m ∧ W m' σ' H', ct := fun σ' H' => ∃ m', m' < m ∧ W m' σ' H', bk := D.nx } σ H) :
    ∃ N : L2.St → Hp → Prop, (∀ σ' H', N σ' H' → ∃ m', m' < m ∧ W m' σ' H') ∧ tb { D with nx := N, ct := N, bk := D.nx } σ H := ⟨_, fun _ _ h => h, h⟩
theorem atI0 {α : Type} {x : α} {xs : List α} : atI (x :: xs) 0 = some x := atI_nat (j := 0) rfl
theorem atI1 {α : Type} {x y : α} {xs : List α} : atI (x :: y :: xs) 1 = some y := atI_nat (j := 1) rfl
theorem atI2 {α : Type} {x y z : α} {xs : List α} : atI (x :: y :: z :: xs) 2 = some z := atI_nat (j := 2) rfl
theorem atI3 {α : Type} {x y z u : α} {xs : List α} : atI (x :: y :: z :: u :: xs) 3 = some u := atI_nat (j := 3) rfl
theorem atI4 {α : Type} {x y z u t : α} {xs : List α} : atI (x :: y :: z :: u :: t :: xs) 4 = some t := atI_nat (j := 4) rfl
theorem sz5 {n : Nat} (h : n ≤ 1000000) : n ≤ sizeLine := Nat.le_trans h (by decide)
theorem sz5' {n : Nat} (h : n < 1000000) : n < sizeLine := Nat.lt_of_lt_of_le h (by decide)
theorem rev_last {α : Type} (z : α) (zs : List α) : (z :: zs).reverse[(z :: zs).reverse.length - 1]? = some z := by
  rw [List.reverse_cons]
  simp
theorem rev_drop {α : Type} (z : α) (zs : List α) : (z :: zs).reverse.dropLast = zs.reverse := by
  rw [List.reverse_cons, List.dropLast_concat]
theorem i_case {c : Bool} {A B : Prop} (h1 : c = true → A) (h2 : c = false → B) : if c = true then A else B := by
  cases c with
  | true => exact iteT (h1 rfl)
  | false => exact iteF (h2 rfl)
theorem nT {b : Bool} (h : (!b) = true) : b = false := by cases b <;> first | rfl | cases h
theorem nF {b : Bool} (h : (!b) = false) : b = true := by cases b <;> first | rfl | cases h
theorem i_join {t : TS} {D : Ends} {σ : L2.St} {H : Hp} (P : L2.St → Hp → Prop) (hr : ∀ σ' H', P σ' H' → D.nx σ' H') (h : (∀ σ' H', P σ' H' → D.nx σ' H') → t D σ H) : t D σ H := h hr
/-- forgetting the slots of a comprehension's own names -/
theorem atN {α : Type} {us : List α} {i : Nat} {x : α} (h : us[i]? = some x) : atI us (0 + (i : Int)) = some x := by rw [Int.zero_add]; exact atI_nat h
theorem none_upd {H : Hp} {a b : Addr} {o : HO} (h : upd H a o b = none) : b ≠ a ∧ H b = none := by
  by_cases e : b = a
  · subst e; rw [upd_same] at h; cases h
  · exact ⟨e, by rw [upd_ne e] at h; exact h⟩
theorem dI (a b : Int) : decide (V.int a = V.int b) = decide (a = b) := by
  by_cases h : a = b
  · subst h; simp
  · rw [decide_eq_false h, decide_eq_false (fun z => h (V.int.inj z))]
theorem dB (a b : Bool) : decide (V.bl a = V.bl b) = (a == b) := by cases a <;> cases b <;> rfl
theorem dS (a b : Str) : decide (V.str a = V.str b) = decide (a = b) := by
  by_cases h : a = b
  · subst h; simp
  · rw [decide_eq_false h, decide_eq_false (fun z => h (V.str.inj z))]
end Us
set_option maxRecDepth 100000
set_option maxHeartbeats 4000000
/-! super().__init__(P); self.F = P -/
namespace Us
open PySem PySem.Spec PyProof.Rows L2
abbrev supBody (PP F : Str) (q0 q1 q2 q3 q4 q5 q6 q7 q8 q9 : Pos) : List Stmt :=
  [.Expr (.Call (.Attribute (.Call (.Name "super" q0) [] [] q1) "__init__" q2) [.Name PP q3] [] q4) q5, .Assign [.Attribute (.Name "self" q6) F q7] (.Name PP q8) q9]
section
open PySem.W PySem.Calls
variable {P : Program} {w : World} {K : PySem.W.Frag} {A : Around} {s : Shared} {name qual : Str} {params : Arguments} {scope : Scope} {dV kV doc pm ct oc ccl cl : Value} {an od cdd cld : Option Addr} {osl ccs csl : Array (Option Value)} {vs : Array Value} {file : Str} {tf : Tok} {f cc cda C a t0 : Addr} {PP F : Str} {v : Value} {args : Args} {R : Result → Shared → Prop} {q0 q1 q2 q3 q4 q5 q6 q7 q8 q9 : Pos} {mg mb : Str → Option Value} {nm qn : Str} {N : Addr} {bs bm sub : List Value} {sn : List Str} {ab : Bool} {col : Option Bool} {dd : Option Addr} {k0 k1 k2 k3 k5 : Option Value} {ar : Arg}
theorem mw_call {prog : Program} {A : Around} {E : Value → Shared → Prop} {h : Heap} {g : Array GenState} {d : Drawn} {t : Nat} {os : OsState} {u : Addr} {rest : List Value} {Q : Value → Shared → Prop}
    (hC : h.get? C = some (excClassObj nm qn C N bs bm true sn sub ab col dd k0 k1 k2 k3 k5 "ValueError.__new__")) (he : h.get? a = some (PySem.HandSPX.excO C t0)) (hu : h.get? u = some (kxs_mw "ValueError.__init__" a)) (hz : rest.length ≤ sizeLine)
    (fin : ∀ h' t1, (∀ b o, b ≠ a → h.get? b = some o → h'.get? b = some o) → h'.get? a = some (PySem.HandSPX.excO C t1) → Q .none ⟨h', g, d, t, os⟩) : wpAny (model prog w) A (call (.ref u) rest) Q E ⟨h, g, d, t, os⟩ := by
  refine wpAny_call (codeAny_of_tree ?_)
  show wpAny _ A.in1 (callAny (.ref u) ⟨rest, []⟩) _ _ _
  simp only [callAny]
  refine wpAny_bind (wpAny_load hu ?_)
  simp only [kxs_mw, show (Value.type "method-wrapper" == Value.type "method" || Value.type "method-wrapper" == Value.type "builtin_function_or_method" || Value.type "method-wrapper" == Value.type "method-wrapper") = true by decide, if_true]
  refine KFB.if_so (by decide) ?_
  refine wpAny_bind (check_bound_init PySem.F.excBase_ValueError.toExcCallFacts hC he rfl ?_)
  refine wpAny_bind (wpAny_pure (wpAny_pure ?_))
  refine ⟨plainId_quiet PySem.F.excBase_ValueError.init.plain _, codeAny_builtin PySem.F.excBase_ValueError.initEntry ?_⟩
  exact exc_init_tree (cls := .ref C) (t0 := t0) (dv := none) (c2 := .none) (c3 := .none) (b4 := .bool false) he hz fun h' k e _ => fin h' _ k e
theorem super_code (hroom : A.depth < recursionLimit) (X : K.In s.heap) (lim : s.heap.NoLimit) (hG : s.heap.Ns mainGlobals mg) (hB : s.heap.Ns builtinsNs mb) (hmg : mg "super" = none) (hmb : mb "super" = some (.type "super"))
    (ho : K.lookup f = some ⟨oc, od, .func (ksFn name qual params (supBody PP F q0 q1 q2 q3 q4 q5 q6 q7 q8 q9) scope dV kV doc pm an (.ref cda) ct cc), osl⟩) (hcd : codeIn K (.ref cda) qual = true)
    (hbind : BindsTo s (ksFn name qual params (supBody PP F q0 q1 q2 q3 q4 q5 q6 q7 q8 q9) scope dV kV doc pm an (.ref cda) ct cc) args [("self", .ref a), (PP, v)]) (hps : (PP == ("self" : Str)) = false)
    (hp : (params.posonlyargs ++ params.args).head? = some ar) (har : ar.arg = "self")
    (hcode : K.lookup cda = some ⟨ccl, cdd, .fields vs, ccs⟩) (hvs : vs[2]? = some (.str file tf)) (hfile : ((P.main.file : Str) == file) = true) (htop : (P.main.scope.names.lookup ("super" : Str)).isSome = false)
    (hcell : K.lookup cc = some ⟨cl, cld, .cell (some (.ref C)), csl⟩) (hks : scope.names.lookup ("super" : Str) = some .globalImplicit) (hkc : scope.names.lookup ("__class__" : Str) = some .free) (hka : scope.names.lookup ("self" : Str) = some .local) (hkp : scope.names.lookup PP = some .local) (hk : scope.kind = .function)
    (hcells : ∀ x ∈ scope.names, x.2 ≠ .cell) (hco : scope.isCoroutine = false) (hgen : scope.isGenerator = false)
    (hC : K.lookup C = some (excClassObj nm qn C N bs bm true sn sub ab col dd k0 k1 k2 k3 k5 "ValueError.__new__")) (hbm : PySem.HandSPX.refsVE bm = true) (hsup : ks_superIn K C C "__init__" = some (some (.builtin "ValueError.__init__"))) (hnop : nsIn K cStatics "thirdparty.any" = some none)
    (hmro : mroIn K C (.ref C) = some true) (hVE : subIn K (.ref C) (.type "ValueError") = some true) (sa : findIn K (.ref C) "__setattr__" = some (some (.builtin "object.__setattr__"))) (hno : findIn K (.ref C) F = some none)
    (hx : s.heap.get? a = some (PySem.HandSPX.excO C t0)) (hPd : (PP == ("__debug__" : Str)) = false) (hq : (q2.endLine == q4.line) = true) (hKa : K.lookup a = none)
    (h : ∀ h' tk dx t1, (∀ b o, b ≠ a → s.heap.get? b = some o → h'.get? b = some o) → s.heap.objs.size ≤ dx → dx ≠ a → h'.get? a = some { cls := .ref C, dict := some dx, data := .fields #[.ref t1, .none, .none, .none, .bool false, .none] } → h'.Ns1 dx (fun y => if y = F then some v else none) → R (.ok (.ret .none)) { s with heap := h', toks := tk }) :
    codeAny (model P w) A (.call (.ref f) args) R s := by
  refine ks_codeAny_call_defAt (fd := ksFn name qual params (supBody PP F q0 q1 q2 q3 q4 q5 q6 q7 q8 q9) scope dV kV doc pm an (.ref cda) ct cc) (body := supBody PP F q0 q1 q2 q3 q4 q5 q6 q7 q8 q9) (binds := [("self", .ref a), (PP, v)]) hroom (X _ _ ho) rfl lim (codeRec_of X hcd) rfl hbind hcells (fun x hx => ?_) (fun h0 hns k0' => ?_) hco hgen hk
  · rcases List.mem_cons.mp hx with rfl | hx
    · exact hka
    · rcases List.mem_cons.mp hx with rfl | hx
      · exact hkp
      · cases hx
  obtain ⟨hh, g, d, t, os⟩ := s
  have X0 : K.In h0 := X.keeps k0'
  have G0 := hG.keeps k0'
  have B0 := hB.keeps k0'
  have hx0 := k0' _ _ hx
  have mS : (fun x => List.lookup x (List.reverse [(("self" : Str), Value.ref a), (PP, v)])) ("self" : Str) = some (.ref a) := by
    show List.lookup ("self" : Str) [(PP, v), ("self", .ref a)] = _
    have e : (("self" : Str) == PP) = false := by
      cases q : (("self" : Str) == PP) with
      | false => rfl
      | true => rw [eq_of_beq q, beq_self_eq_true] at hps; cases hps
    simp [List.lookup, e]
  have mP : (fun x => List.lookup x (List.reverse [(("self" : Str), Value.ref a), (PP, v)])) PP = some v := by
    show List.lookup PP [(PP, v), ("self", .ref a)] = _
    simp [List.lookup]
  have he : ∀ env : Env, eval (.Call (.Attribute (.Call (.Name "super" q0) [] [] q1) "__init__" q2) [.Name PP q3] [] q4) env = (do
      let ov ← attributeBase (.Call (.Name "super" q0) [] [] q1) "__init__" env (eval (.Call (.Name "super" q0) [] [] q1) env)
      standAt q2.atName
      let (f, first) ← holding [ov] (getMethod ov "__init__" (do return (← importBound (.Call (.Name "super" q0) [] [] q1) env).getD true))
      callWith q4 f first (backTo q4 (starEach [.Name PP q3] env)) []) := fun env => by
    show (do
      let ov ← attributeBase (.Call (.Name "super" q0) [] [] q1) "__init__" env (eval (.Call (.Name "super" q0) [] [] q1) env)
      standAt q2.atName
      methodCall (.Call (.Name "super" q0) [] [] q1) "__init__" q2 q4 env ov 1 (backTo q4 (starEach [.Name PP q3] env)) []) = _
    unfold methodCall methodCallPos
    rw [hq]
    rfl
  refine ks_wpAt_execs_cons (ks_wpAt_Expr_any (ks_wpAt_MethodCall ?main (he _)) ?hi ?hs)
  case hi => unfold interactive; rw [show (callEnv (ksFn name qual params (supBody PP F q0 q1 q2 q3 q4 q5 q6 q7 q8 q9) scope dV kV doc pm an (.ref cda) ct cc) hh.objs.size f).scope.kind = .function from hk]; rfl
  case hs => rfl
  obtain ⟨cdC, hcl, hcm, hcdd⟩ : ∃ cdC, clsIn K C = some cdC ∧ cdC.mro = .ref C :: bm ∧ cdC.hasDict = true := ⟨_, by unfold clsIn; rw [hC] <;> rfl, rfl, rfl⟩
  obtain ⟨oC, hC1, hC2⟩ : ∃ oD, h0.get? C = some oD ∧ ∃ cd, oD.data = .cls cd := ⟨_, X0 _ _ hC, _, rfl⟩
  obtain ⟨cdx, hC2⟩ := hC2
  refine ks_wpAt_super_base (f := f) (cc := cda) hks hkc (by decide) rfl (X0 _ _ ho) rfl hp rfl (X0 _ _ hcode) rfl hvs hfile htop ?_
  rw [har]
  refine ks_loadName_global hk hks (Calls.loadGlobal_builtin (env := callEnv (ksFn name qual params (supBody PP F q0 q1 q2 q3 q4 q5 q6 q7 q8 q9) scope dV kV doc pm an (.ref cda) ct cc) hh.objs.size f) G0 hmg B0 hmb ⟨rfl, ?_⟩)
  refine wpAny_loadName_free hk hkc rfl ⟨_, X0 _ _ hcell, rfl⟩ ?_
  refine wpAny_loadName_local hk hka hns mS ?_
  refine ks_wpAny_isType_cls hC1 hC2 ⟨rfl, ?_⟩
  refine ks_wpAny_call_super hC1 hC2 hx0 rfl (fun c e => by cases e) (looks_mroIn X0 hmro) (fun h1 e1 kk1 => ?_)
  have X1 : K.In h1 := X0.keeps kk1
  have hx1 := kk1 _ _ hx0
  have I1 : PySem.W.InstAt h1 a (PySem.HandSPX.excO C t0) C none := ⟨hx1, rfl, rfl, trivial⟩
  have hI : Looks (model P w) h1 (isInstance (.ref a) (.type "ValueError")) true := I1.type.andThen (looks_subIn X1 hVE)
  unfold ks_superIn at hsup
  rw [hcl] at hsup
  refine kxs_getMethod kxs_ValueError e1 (looks_opaque X1 hnop) (l₀ := cdC.mro) (fun A Q E s k q => wpAny_bind ((looks_clsIn X1 hcl) A _ E s k (wpAny_pure q))) rfl X1 hsup hI (ks_ne X1 I1 hcl) (by decide) ?_
  have kk2 : ∀ b o, h1.get? b = some o → (h1.push (kxs_mw "ValueError.__init__" a)).get? b = some o := fun b o e => Heap.get?_push_of_some _ e
  have eu : (h1.push (kxs_mw "ValueError.__init__" a)).get? h1.objs.size = some (kxs_mw "ValueError.__init__" a) := Heap.get?_push_at rfl rfl
  refine kxs_callWith (i := "ValueError.__init__") (x := a) (by rfl) ?_
  have kk3 : ∀ b o, h0.get? b = some o → (h1.push (kxs_mw "ValueError.__init__" a)).get? b = some o := fun b o e => kk2 _ _ (kk1 _ _ e)
  show wpAny _ _ (evalArgs _ true ((false, eval (.Name PP q3) _) :: backTo q4 (starEach [] _)) []) _ _ _
  refine evalArgs_plain (Calls.spliced_cons (wpAny_Name (wpAny_loadName_local hk hkp (hns.at fun o q => kk3 _ _ q) mP (Calls.spliced_nil ⟨eu, ?_⟩)) hPd))
  refine mw_call (kk3 _ _ (X0 _ _ hC)) (kk3 _ _ hx0) eu (by show 1 ≤ sizeLine; rw [sizeLine_eq]; omega) (fun h2 t1 k4 hx2 => ?_)
  have hLa : hh.objs.size ≠ a := fun z => absurd (Heap.lt_size hx) (by rw [z]; exact Nat.lt_irrefl _)
  have X2 : K.In h2 := fun b o e => k4 b o (fun z => by
    rw [z, hKa] at e
    cases e) ((X0.keeps kk3) _ _ e)
  have hns2 := hns.at (h' := h2) fun o q => k4 _ _ hLa (kk3 _ _ q)
  refine ks_wpAt_execs_cons (ks_wpAt_Assign_Attr (wpAt_of_wpAny (wpAny_Name (wpAny_loadName_local hk hkp hns2 mP (wpAny_Name (wpAny_loadName_local hk hka hns2 mS ?_) (by decide))) hPd)))
  refine PySem.W.set_plain X2 (ox := PySem.HandSPX.excO C t1) (od := none) ⟨hx2, rfl, rfl, trivial⟩ sa ?_
  refine PySem.HandSPX.exc_osa X2 hx2 hcl (show PySem.HandSPX.refsVE cdC.mro = true by rw [hcm]; exact hbm) hcdd hno (fun h3 tk dx k5 dn dne hx3 hn3 => ?_)
  show _root_.PySem.wpAt _ _ _ (execs [] _) _ _ _
  refine wpAt_of_wpAny (wpAny_pure ?_)
  have sz : hh.objs.size ≤ h2.objs.size := by
    obtain ⟨_, _, _, e1, _⟩ := hns2
    exact Nat.le_of_lt (Heap.lt_size e1)
  exact h h3 tk dx t1 (fun b o hb e => k5 b o hb (k4 b o hb (kk3 _ _ (k0' _ _ e)))) (Nat.le_trans sz dn) dne hx3 hn3
end
/-! ### the facts, as the head tells them -/
/-- what is looked at of a def that closes over __class__ -/
abbrev SupV : Type := Option (Str × Str × Arguments × FuncBody × Scope × Addr × List Str × Value × Addr)
def supObs (K : PySem.W.Frag) (f : Addr) : SupV := match K.lookup f with
  | some ⟨_, _, .func fd, _⟩ => some (fd.name, fd.qualname, fd.params, fd.body, fd.scope, fd.globals, fd.closure.map (·.1), fd.defaults, fd.builtins)
  | _ => none
structure SupT where
  x : Str
  name : Str
  qual : Str
  params : Arguments
  PP : Str
  F : Str
  q : List Pos
  scope : Scope
abbrev SupT.body (d : SupT) : List Stmt := supBody d.PP d.F (d.q.getD 0 ⟨0, 0, 0, 0⟩) (d.q.getD 1 ⟨0, 0, 0, 0⟩) (d.q.getD 2 ⟨0, 0, 0, 0⟩) (d.q.getD 3 ⟨0, 0, 0, 0⟩) (d.q.getD 4 ⟨0, 0, 0, 0⟩) (d.q.getD 5 ⟨0, 0, 0, 0⟩) (d.q.getD 6 ⟨0, 0, 0, 0⟩) (d.q.getD 7 ⟨0, 0, 0, 0⟩) (d.q.getD 8 ⟨0, 0, 0, 0⟩) (d.q.getD 9 ⟨0, 0, 0, 0⟩)
def SupT.val (d : SupT) : SupV := some (d.name, d.qual, d.params, .stmts d.body, d.scope, mainGlobals, ["__class__"], .none, builtinsNs)
/-- of the def's text alone -/
structure SupT.Ok (d : SupT) (P : Program) : Prop where
  hps : (d.PP == ("self" : Str)) = false
  bind : ∀ (kV doc pm : Value) (an : Option Addr) (cdv ct : Value) (cc : Addr) (u v : Value), bindArgs (PySem.W.ksFn d.name d.qual d.params d.body d.scope .none kV doc pm an cdv ct cc) ⟨[u, v], []⟩ = pure [(("self" : Str), u), (d.PP, v)]
  hp : ∃ ar, (d.params.posonlyargs ++ d.params.args).head? = some ar ∧ ar.arg = "self"
  htop : (P.main.scope.names.lookup ("super" : Str)).isSome = false
  hks : d.scope.names.lookup ("super" : Str) = some .globalImplicit
  hkc : d.scope.names.lookup ("__class__" : Str) = some .free
  hka : d.scope.names.lookup ("self" : Str) = some .local
  hkp : d.scope.names.lookup d.PP = some .local
  hk : d.scope.kind = .function
  hcells : ∀ x ∈ d.scope.names, x.2 ≠ .cell
  hco : d.scope.isCoroutine = false
  hgen : d.scope.isGenerator = false
  hPd : (d.PP == ("__debug__" : Str)) = false
  hq : ((d.q.getD 2 ⟨0, 0, 0, 0⟩).endLine == (d.q.getD 4 ⟨0, 0, 0, 0⟩).line) = true
/-- of the heap -/
def supBs (d : SupT) (file : Str) (K : PySem.W.Frag) : List Bool :=
  [(match K.lookup (He.ma K (He.ga K d.x) "__init__") with
    | some ⟨_, _, .func fd, _⟩ => PySem.W.codeIn K fd.code d.qual && ((match fd.code with
        | .ref c => (match K.lookup c with
          | some ⟨_, _, .fields vs, _⟩ => (match (vs[2]? : Option Value) with
            | some (.str z _) => file == z
            | _ => false)
          | _ => false)
        | _ => false) && (match fd.closure with
        | [(_, cc)] => (match K.lookup cc with
          | some ⟨_, _, .cell (some (.ref D)), _⟩ => D == He.ga K d.x
          | _ => false)
        | _ => false))
    | _ => false),
   PySem.W.excInitIn K (He.ga K d.x) He.veBase "ValueError.__new__",
   PySem.W.hasDictIn K (He.ga K d.x),
   decide (PySem.W.ks_superIn K (He.ga K d.x) (He.ga K d.x) "__init__" = some (some (.builtin "ValueError.__init__"))),
   decide (PySem.W.nsIn K cStatics "thirdparty.any" = some none),
   decide (PySem.W.mroIn K (He.ga K d.x) (.ref (He.ga K d.x)) = some true),
   decide (PySem.W.subIn K (.ref (He.ga K d.x)) (.type "ValueError") = some true),
   decide (PySem.W.findIn K (.ref (He.ga K d.x)) "__setattr__" = some (some (.builtin "object.__setattr__"))),
   decide (PySem.W.findIn K (.ref (He.ga K d.x)) d.F = some none),
   decide (PySem.W.subIn K (.ref (He.ga K d.x)) (.type "BaseException") = some true),
   decide (PySem.W.typeIn K (.ref (He.ga K d.x)) = some (.type "type")),
   PySem.W.keepIn K (.ref (He.ga K d.x)),
   decide (PySem.W.findIn K (.ref (He.ga K d.x)) "__init__" = some (some (.ref (He.ma K (He.ga K d.x) "__init__")))),
   decide (PySem.W.typeIn K (.ref (He.ma K (He.ga K d.x) "__init__")) = some (.type "function")),
   decide (PySem.W.nsIn K mainGlobals "super" = some none),
   decide (PySem.W.nsIn K mainGlobals d.x = some (some (.ref (He.ga K d.x)))),
   xfB K (He.ga K d.x)]
def supB (d : SupT) (file : Str) (K : PySem.W.Frag) : Bool := (supBs d file K).all id
theorem supB_at {d : SupT} {file : Str} {K : PySem.W.Frag} (h : supB d file K = true) (i : Nat) {b : Bool} (e : (supBs d file K)[i]? = some b) : b = true :=
  List.all_eq_true.mp h b (List.mem_of_getElem? e)
/-- what the walk leans on -/
structure SupOk (P : Program) (K : PySem.W.Frag) (d : SupT) : Prop where
  t : d.Ok P
  b : supB d P.main.file K = true
  v : supObs K (He.ma K (He.ga K d.x) "__init__") = d.val
section
variable {P : Program} {K : PySem.W.Frag} {d : SupT}
theorem SupOk.at (S : SupOk P K d) (i : Nat) {b : Bool} (e : (supBs d P.main.file K)[i]? = some b := by rfl) : b = true := supB_at S.b i e
theorem SupOk.cls (S : SupOk P K d) : ∃ nm q N bs bm sn sub ab col dd k0 k1 k2 k3 k5, K.lookup (He.ga K d.x) = some (excClassObj nm q (He.ga K d.x) N bs bm true sn sub ab col dd k0 k1 k2 k3 k5 "ValueError.__new__") ∧ PySem.HandSPX.refsVE bm = true := by
  have q := S.at 1
  have q2 := S.at 2
  unfold PySem.W.excInitIn at q
  split at q
  · rename_i dd cd sl ho
    split at q
    · rename_i C' bm k0 k1 k2 k3 n k5 hm hs
      simp only [Bool.and_eq_true, beq_iff_eq, Bool.not_eq_true'] at q
      obtain ⟨⟨⟨rfl, rfl⟩, hdel⟩, ht⟩ := q
      obtain ⟨nm, bs, mro, ns, qn, hd, sn, sub, ab, col, del⟩ := cd
      dsimp only at hm hdel
      subst hm hdel
      have hsl : sl = #[k0, k1, k2, k3, some (.builtin "ValueError.__new__"), k5] := by
        obtain ⟨l⟩ := sl
        simp only at hs
        rw [hs]
      subst hsl
      have hh : hd = true := by
        unfold PySem.W.hasDictIn PySem.W.clsIn at q2
        rw [ho] at q2
        exact q2
      subst hh
      refine ⟨nm, qn, ns, bs, bm, sn, sub, ab, col, dd, k0, k1, k2, k3, k5, ho, ?_⟩
      have : ∀ l : List Value, PySem.W.excTail He.veBase l = true → PySem.HandSPX.refsVE l = true := by
        intro l
        induction l with
        | nil => intro e; exact absurd e (by decide)
        | cons a r ih =>
          intro e
          rcases PySem.W.excTail_cases (a :: r) e with ⟨c, r', q, h'⟩ | q
          · obtain ⟨rfl, rfl⟩ := List.cons.inj q
            exact ih h'
          · rw [q]; decide +kernel
      exact this _ ht
    · cases q
  · cases q
theorem SupOk.oexC (S : SupOk P K d) : OexC K (He.ga K d.x) where
  cls := S.cls
  sa := of_decide_eq_true (S.at 7)
  exC := of_decide_eq_true (S.at 9)
  tyC := of_decide_eq_true (S.at 10)
  kC := S.at 11
theorem SupOk.xfC (S : SupOk P K d) : XfC K (He.ga K d.x) := xfB_ok (S.at 16)
theorem SupOk.fn (S : SupOk P K d) : ∃ oc od osl kV doc pm an cda ct cc, K.lookup (He.ma K (He.ga K d.x) "__init__") = some ⟨oc, od, .func (PySem.W.ksFn d.name d.qual d.params d.body d.scope .none kV doc pm an (.ref cda) ct cc), osl⟩ ∧ PySem.W.codeIn K (.ref cda) d.qual = true ∧
    (∃ ccl cdd vs ccs file tf, K.lookup cda = some ⟨ccl, cdd, .fields vs, ccs⟩ ∧ vs[2]? = some (.str file tf) ∧ ((P.main.file : Str) == file) = true) ∧ ∃ cl cld csl, K.lookup cc = some ⟨cl, cld, .cell (some (.ref (He.ga K d.x))), csl⟩ := by
  have e := S.v
  have c2 := S.at 0
  unfold supObs at e
  cases q : K.lookup (He.ma K (He.ga K d.x) "__init__") with
  | none =>
    rw [q] at e
    cases e
  | some o =>
    obtain ⟨oc, od, dt, osl⟩ := o
    rw [q] at c2 e
    cases dt with
    | func fd =>
      obtain ⟨n1, n2, n3, n4, n5, n6, n7, n8, n9, n10, n11, n12, n13, n14, n15⟩ := fd
      have e2 : (some (n1, n2, n3, n4, n5, n6, n7.map (·.1), n8, n15) : SupV) = d.val := e
      unfold SupT.val at e2
      simp only [Option.some.injEq, Prod.mk.injEq] at e2
      obtain ⟨h1, h2, h3, h4, h5, h6, h7, h8, h9⟩ := e2
      subst h1 h2 h3 h4 h5 h6 h8 h9
      dsimp only at c2
      obtain ⟨b1, b2⟩ := He.ba c2
      obtain ⟨b3, b4⟩ := He.ba b2
      split at b3
      · rename_i c
        split at b3
        · rename_i ccl cdd vs ccs hc
          split at b3
          · rename_i z tz hz
            split at b4
            · rename_i nn cc
              split at b4
              · rename_i cl cld D csl hcc
                obtain rfl : D = He.ga K d.x := eq_of_beq b4
                have hn : nn = "__class__" := by
                  exact (List.cons.inj (show [nn] = [("__class__" : Str)] from h7)).1
                subst hn
                exact ⟨oc, od, osl, n9, n10, n11, n12, c, n14, cc, rfl, b1, ⟨ccl, cdd, vs, ccs, z, tz, hc, hz, b3⟩, cl, cld, csl, hcc⟩
              · cases b4
            · cases b4
          · cases b3
        · cases b3
      · cases b3
    | _ => cases e
end
/-! ### the promise and the rule -/
def supSp (C : Addr) (F : Str) : Sp := fun vs H Q E => ∃ (a : Addr) (v : V), vs = [.ref a, v] ∧ H a = some (exo a C none) ∧ ∀ dx, H dx = none → dx ≠ a → Q .non (upd (upd H dx (exd dx [(F, v)])) a (exo a C (some dx)))
theorem SupOk.ok {P : Program} {w : World} {K : PySem.W.Frag} {mg : Str → Option Value} {base : Heap} {CX : CXT} {d : SupT} (S : SupOk P K d) : ∃ fd, FnOk P w K mg base CX 1 (He.ma K (He.ga K d.x) "__init__") fd ["self", d.PP] (supSp (He.ga K d.x) d.F) ∧ L2.Binds K fd ["self", d.PP] [] := by
  obtain ⟨oc, od, osl, kV, doc, pm, an, cda, ct, cc, lk, hcd, ⟨ccl, cdd, vs0, ccs, file, tf, hcode, hvs, hfile⟩, cl, cld, csl, hcell⟩ := S.fn
  obtain ⟨nm, q, N, bs, bm, sn, sub, ab, col, dd, k0, k1, k2, k3, k5, hC, hbm⟩ := S.cls
  obtain ⟨ar, har1, har2⟩ := S.t.hp
  refine ⟨PySem.W.ksFn d.name d.qual d.params d.body d.scope .none kV doc pm an (.ref cda) ct cc, ⟨fun vs H Q E h => ?_, fun A outer s H args us vs Q E hr e0 hb r hsp => ?_⟩, Binds.all fun us hl => ?_⟩
  · obtain ⟨a, v, rfl, _⟩ := h
    rfl
  rotate_left
  · match us, hl with
    | [u, v], _ => exact S.t.bind kV doc pm an _ ct cc u v
  obtain ⟨a, v, rfl, ha, hq⟩ := hsp
  obtain ⟨u0, u, rfl, r0, r1⟩ := vals2 r
  obtain rfl : u0 = Value.ref a := r0
  have KX : K.In s.heap := e0.mod.kin.keeps fun b o e => (e0.bs b o e).1
  have lim : s.heap.NoLimit := e0.mod.nolimit.keeps fun b o e => (e0.bs b o e).1
  have hG := e0.mod.glob.keeps (h' := s.heap) fun b o e => (e0.bs b o e).1
  obtain ⟨mb, hB0, hBv⟩ := e0.mod.blt
  have hB := hB0.keeps (h' := s.heap) fun b o e => (e0.bs b o e).1
  obtain ⟨t0, hx⟩ := exo_at e0.hok ha
  have hKa : K.lookup a = none := by
    cases e : K.lookup a with
    | none => rfl
    | some o =>
      have z := (e0.bs a o (e0.mod.kin _ _ e)).2
      rw [ha] at z
      cases z
  refine super_code (mg := mg) (mb := mb) (t0 := t0) (v := u) hr.depth KX lim hG hB (PySem.W.mg_none_of e0.mod.kin e0.mod.glob (of_decide_eq_true (S.at 14))) ((hBv _ (by decide)).trans (by first | rfl | decide +kernel | kernel_rfl)) lk hcd hb S.t.hps har1 har2 hcode hvs hfile S.t.htop hcell S.t.hks S.t.hkc S.t.hka S.t.hkp S.t.hk S.t.hcells S.t.hco S.t.hgen hC hbm
    (of_decide_eq_true (S.at 3)) (of_decide_eq_true (S.at 4)) (of_decide_eq_true (S.at 5)) (of_decide_eq_true (S.at 6)) (of_decide_eq_true (S.at 7)) (of_decide_eq_true (S.at 8)) hx S.t.hPd S.t.hq hKa (fun h' tk dx t1 k dn dne hx' hn' => ?_)
  have hnd : H dx = none := e0.hok.fresh dn
  have nd : ∀ {b : Addr} {o : Obj}, s.heap.get? b = some o → b ≠ dx := fun {b o} q => Nat.ne_of_lt (Nat.lt_of_lt_of_le (Heap.lt_size q) dn)
  have na : ∀ {b : Addr}, H b = none → b ≠ a := fun {b} n z => by
    rw [z, ha] at n
    cases n
  refine ⟨.non, upd (upd H dx (exd dx [(d.F, v)])) a (exo a (He.ga K d.x) (some dx)), rfl, e0.bare, ?_, fun b o q => ?_, rfl, hq dx hnd dne⟩
  · exact {
      keep := fun b o q n _ _ => k b o (na n) q
      slot := fun b o q n _ _ => ⟨o.slots, k b o (na n) q⟩
      free := fun b o q n _ => by rw [upd_ne (na n), upd_ne (nd q)]; exact n
      there := fun b o q _ => by
        by_cases hb : b = a
        · exact ⟨_, by rw [hb]; exact hx'⟩
        · exact ⟨o, k b o hb q⟩
      tups := fun b xs q => by rw [upd_ne (at_ne ha q exo_tup), upd_ne (ne_of_none q hnd)]; exact q
      frzs := fun b o v q => by rw [upd_ne (at_ne ha q exo_frz), upd_ne (ne_of_none q hnd)]; exact q
      tbls := fun b ps q => ⟨#[], by rw [upd_ne (at_ne ha q exo_tbl), upd_ne (ne_of_none q hnd), q]; simp⟩ }
  by_cases hb : b = a
  · subst hb
    rw [upd_same] at q
    cases q
    exact exo_ok hx'
  · rw [upd_ne hb] at q
    by_cases hd : b = dx
    · subst hd
      rw [upd_same] at q
      cases q
      exact exd_ok hn' (relO_put (fs := []) r1 fun g => True.intro)
    · rw [upd_ne hd] at q
      exact (e0.hok b o q).stay (fun c v hc z => k c v (by
          rcases hc with hc | hc
          · rw [hc]
            exact hb
          · exact at_ne ha hc exo_own) z)
        (fun c hc => by rw [upd_ne (at_ne ha hc exo_own), upd_ne (ne_of_none hc hnd)]; exact hc) (fun c xs hc => by rw [upd_ne (at_ne ha hc exo_tup), upd_ne (ne_of_none hc hnd)]; exact hc)
/-- C(e), C an own exception with one field -/
def SupQ (C : Addr) (F : Str) (v : V) (H1 : Hp) (Q : XK) : Prop := [v].length ≤ 1000 ∧ ∀ a, H1 a = none → supSp C F (.ref a :: ([v] ++ [])) (upd H1 a (exo a C none))
  (fun y H2 => y = .non ∧ ∃ (dx : Addr) (fs : List (Str × V)), H2 a = some (exo a C (some dx)) ∧ H2 dx = some (exd dx fs) ∧ H1 dx = none ∧ Q (.ref C) (some dx) (upd (del H2 a) dx (.xd fs))) (fun _ _ _ => False)
def tSup (C : Addr) (F : Str) (te : TE) : L2.St → Hp → XK → Prop := fun σ H Q => te σ H fun v H1 => SupQ C F v H1 Q
theorem i_sup {C : Addr} {F : Str} {v : V} {H1 : Hp} {Q : XK} (q : ∀ d, H1 d = none → Q (.ref C) (some d) (upd H1 d (.xd [(F, v)]))) : SupQ C F v H1 Q := by
  refine ⟨by simp, fun a ha => ⟨a, v, rfl, upd_same, fun dx hn hne => ⟨rfl, dx, [(F, v)], upd_same, ?_, ?_, ?_⟩⟩⟩
  · rw [upd_ne hne, upd_same]
  · rw [upd_ne hne] at hn
    exact hn
  · rw [upd_ne hne] at hn
    have e : upd (del (upd (upd (upd H1 a (exo a C none)) dx (exd dx [(F, v)])) a (exo a C (some dx))) a) dx (.xd [(F, v)]) = upd H1 dx (.xd [(F, v)]) := by
      funext b
      by_cases h1 : b = dx
      · subst h1; rw [upd_same, upd_same]
      · rw [upd_ne h1, upd_ne h1]
        by_cases h2 : b = a
        · subst h2; rw [del_same, ha]
        · rw [del_ne h2, upd_ne h2, upd_ne h1, upd_ne h2]
    rw [e]
    exact q dx hn
theorem i_tsup {C : Addr} {F : Str} {te : TE} {σ : L2.St} {H : Hp} {Q : XK} (h : te σ H fun v H1 => SupQ C F v H1 Q) : tSup C F te σ H Q := h
theorem pmk_sup {X : Cx} {CX : CXT} {d : SupT} {te : TE} {e : Expr} {p pos : Pos} {k : Nat} (S : SupOk X.prog X.K d) (gC : X.mg d.x = some (.ref (He.ga X.K d.x))) (hr : Room (k + 2) X.A) (hg : Gl X d.x) (hx : Passes CX X (fun _ _ _ => False)) (he : PE X e te)
    (hdb : (d.x == ("__debug__" : Str)) = false := by decide) (hs : starEach [e] X.env = (false, eval e X.env) :: starEach [] X.env := by rfl) : PMk X (.Call (.Name d.x p) [e] [] pos) (tSup (He.ga X.K d.x) d.F te) := by
  obtain ⟨fd, F1, hb⟩ := S.ok (w := X.w) (mg := X.mg) (base := X.base) (CX := CX)
  exact pmk_oex (x := d.x) (p := p) (pos := pos) (e := e) (es := []) S.oexC (of_decide_eq_true (S.at 12)) (of_decide_eq_true (S.at 13)) F1 (hr.mono (by omega)) hb .nil hx hg gC (pa_cons he pa_nil hs) hdb hs
/-! ### the hook -/
abbrev AlY : Type := He.AlD × Bool × List SupV
def obsY (fa : List He.Fa) (fn : List He.DefD) (ss : List SupT) (ex : PySem.W.Frag → Bool) (K : PySem.W.Frag) : AlY := (He.obsD fa fn K, ex K, ss.map fun d => supObs K (He.ma K (He.ga K d.x) "__init__"))
def obsYG (n : Nat) (fa : List He.Fa) (fn : List He.DefD) (ss : List SupT) (ex : PySem.W.Frag → Bool) (g : Addr → Option Obj) : AlY := obsY fa fn ss ex (He.frG g (cStatics :: He.asD g n))
def SaysS (ss : List SupT) (K : PySem.W.Frag) : Prop := (ss.map fun d => supObs K (He.ma K (He.ga K d.x) "__init__")) = ss.map SupT.val
theorem SaysS.at {ss : List SupT} {K : PySem.W.Frag} (c : SaysS ss K) (i : Nat) {d : SupT} (h : ss[i]? = some d := by rfl) : supObs K (He.ma K (He.ga K d.x) "__init__") = d.val := by
  have e2 : (ss.map fun d => supObs K (He.ma K (He.ga K d.x) "__init__"))[i]? = (ss.map SupT.val)[i]? := by rw [show _ = _ from c]
  rw [List.getElem?_map, List.getElem?_map, h] at e2
  exact Option.some.inj e2
def hookY (n : Nat) (fa : List He.Fa) (fn : List He.DefD) (ss : List SupT) (ex : PySem.W.Frag → Bool) : PySem.W.Hook where
  α := AlY
  obs := fun s => obsYG n fa fn ss ex s.heap.get?
  val := fun _ => (He.valD fn, true, ss.map SupT.val)
  says := fun _ h => ∃ K : PySem.W.Frag, K.In h ∧ He.SaysD fa fn K ∧ ex K = true ∧ SaysS ss K
  of := fun _ _ e => ⟨_, He.frG_in, congrArg (fun z : AlY => z.1) e, congrArg (fun z : AlY => z.2.1) e, congrArg (fun z : AlY => z.2.2) e⟩
  keeps := fun _ _ _ ⟨K, hK, c⟩ k => ⟨K, PySem.W.Frag.In.keeps hK k, c⟩
theorem obsYG_eq {n : Nat} {fa : List He.Fa} {fn : List He.DefD} {ss : List SupT} {ex : PySem.W.Frag → Bool} {g : Addr → Option Obj} {s : Shared} (h : ∀ a, g a = s.heap.get? a) : obsYG n fa fn ss ex g = (hookY n fa fn ss ex).obs s := by
  have e : g = s.heap.get? := funext h
  rw [e] <;> rfl
end Us
namespace Us
open PySem PySem.Spec PyProof.Rows L2
/-- an object of ours that is written -/
def Own (B H : Hp) (c : Addr) (o : HO) : Prop := B c = none ∧ H c = some o
theorem Own.mono {ms : List Addr} {B H B' H' : Hp} {c : Addr} {o : HO} (g : Gr ms B H B' H') (hc : c ∉ ms) (h : Own B H c o) : Own B' H' c o := ⟨g.bnone h.1 h.2, g.keep _ _ hc h.2⟩
theorem Own.up {B H B' H' : Hp} {c : Addr} {o : HO} (g : Gr [] B H B' H') (h : Own B H c o) : Own B' H' c o := h.mono g (fun z => nomatch z)
theorem Own.cell {B H : Hp} {c : Addr} {o : HO} (s : Same B H) (h : H c = none) : Own B (upd H c o) c o := ⟨bfresh s h, upd_same⟩
/-- it is written -/
theorem Own.put {B H : Hp} {c : Addr} {o u : HO} (h : Own B H c o) : Own B (upd H c u) c u := ⟨h.1, upd_same⟩
theorem Gr.put {ms : List Addr} {B0 H0 B H : Hp} {c : Addr} {o u : HO} (g : Gr ms B0 H0 B H) (h0 : H0 c = none) (h : Own B H c o) : Gr ms B0 H0 B (upd H c u) := g.setN h0 h.1
theorem Own.other {B H : Hp} {c d : Addr} {o u v : HO} (h : Own B H c o) (hd : d ≠ c) : Own B (upd H d u) c o := ⟨h.1, by rw [upd_ne (Ne.symm hd)]; exact h.2⟩
theorem Gr.good {ms : List Addr} {B H B' H' : Hp} {p : Addr} {o : HO} (g : Gr ms B H B' H') (h : B p = some o) : H' p = some o := g.bh _ _ (g.bb _ _ h)
section
variable {H : Hp} {Q : VK} {i : Int} {p : Addr} {z : Str} {b : Bool}
theorem i_isNn (q : Q (.bl true) H) : rIsNU .non .non H Q := i_isN q
theorem i_isNi (q : Q (.bl false) H) : rIsNU (.int i) .non H Q := i_isN q
theorem i_isNr (q : Q (.bl false) H) : rIsNU (.ref p) .non H Q := i_isN q
theorem i_isNs (q : Q (.bl false) H) : rIsNU (.str z) .non H Q := i_isN q
theorem i_isNb (q : Q (.bl false) H) : rIsNU (.bl b) .non H Q := i_isN q
theorem i_ntNn (q : Q (.bl false) H) : rNotNU .non .non H Q := i_notN q
theorem i_ntNi (q : Q (.bl true) H) : rNotNU (.int i) .non H Q := i_notN q
theorem i_ntNr (q : Q (.bl true) H) : rNotNU (.ref p) .non H Q := i_notN q
theorem i_ntNs (q : Q (.bl true) H) : rNotNU (.str z) .non H Q := i_notN q
theorem i_ntNb (q : Q (.bl true) H) : rNotNU (.bl b) .non H Q := i_notN q
end
end Us
set_option maxRecDepth 100000
set_option maxHeartbeats 4000000
/-! ==, != and in by an own __eq__, whatever it answers -/
namespace Us
open PySem PySem.Spec PyProof.Rows L2
/-- what the class at C must have -/
structure OwnQ (K : PySem.W.Frag) (C f : Addr) : Prop where
  eq : PySem.W.findIn K (.ref C) "__eq__" = some (some (.ref f))
  fn : PySem.W.isFn K (.ref f) = true
  ne : PySem.W.findIn K (.ref C) "__ne__" = some (some (.builtin "object.__ne__"))
  ob : PySem.W.subIn K (.ref C) (.type "object") = some true
  no : ∀ n ∈ (["str", "tuple", "list", "NoneType", "int", "bool", "dict"] : List String), PySem.W.subIn K (.ref C) (.type n) = some false
  on : ∀ n ∈ (["str", "tuple", "list", "NoneType", "int", "bool", "dict"] : List String), PySem.W.subIn K (.type n) (.ref C) = some false
abbrev sevenT : List String := ["str", "tuple", "list", "NoneType", "int", "bool", "dict"]
def ownQs (K : PySem.W.Frag) (C f : Addr) : List Bool := [decide (PySem.W.findIn K (.ref C) "__eq__" = some (some (.ref f))), PySem.W.isFn K (.ref f), decide (PySem.W.findIn K (.ref C) "__ne__" = some (some (.builtin "object.__ne__"))), decide (PySem.W.subIn K (.ref C) (.type "object") = some true),
  sevenT.all (fun n => decide (PySem.W.subIn K (.ref C) (.type n) = some false)), sevenT.all (fun n => decide (PySem.W.subIn K (.type n) (.ref C) = some false))]
def ownQB (K : PySem.W.Frag) (C f : Addr) : Bool := (ownQs K C f).all id
theorem all_at {l : List Bool} (h : l.all id = true) (i : Nat) {b : Bool} (e : l[i]? = some b) : b = true := List.all_eq_true.mp h b (List.mem_of_getElem? e)
theorem ownQ_of {K : PySem.W.Frag} {C f : Addr} (h : ownQB K C f = true) : OwnQ K C f :=
  ⟨of_decide_eq_true (all_at h 0 rfl), all_at h 1 rfl, of_decide_eq_true (all_at h 2 rfl), of_decide_eq_true (all_at h 3 rfl), fun n hn => of_decide_eq_true (List.all_eq_true.mp (all_at h 4 rfl) n hn), fun n hn => of_decide_eq_true (List.all_eq_true.mp (all_at h 5 rfl) n hn)⟩
section
variable {X : Cx} {CX : CXT} {C f : Addr} {fd : FuncData} {ps : List Str} {sp : Sp} {E : XK} {n : Nat}
/-- what the own __eq__ is asked -/
abbrev EqS (sp : Sp) (E : XK) (x y : V) (H : Hp) (Q : Bool → Hp → Prop) : Prop := sp [x, y] H (fun v H' => ∃ b, v = .bl b ∧ Q b H') E
/-- the call, at any place below the running body -/
theorem own_call (F : FnOk X.prog X.w X.K X.mg X.base CX n f fd ps sp) (hb : L2.Binds X.K fd ps []) (hx : Passes CX X E) {A : Around} {pins : List (Addr × Obj)} {s : Shared} {σ : L2.St} {H : Hp} {x y : V} {u v : Value} {Q : Bool → Hp → Prop} (sb : Sub X n A) (I : Inv X pins σ H s) (rx : RelV x u) (ry : RelV y v) (h : EqS sp E x y H Q) :
    wpAny (model X.prog X.w) A (call (.ref f) [u, v]) (fun r s' => ∃ b H', r = .bool b ∧ Inv X pins σ H' s' ∧ Q b H') X.xe s := by
  have e0 : Env0 X.prog X.w X.K X.mg X.base A X.stack s H := by
    have e := I.env0
    exact ⟨by rw [sb.fr]; exact e.frames, e.mod, e.bs, e.bsz, e.funs, e.frf, e.hok, e.bare⟩
  have hl := F.len _ _ _ _ h
  have r2 : Vals [x, y] [u, v] := .cons rx (.cons ry .nil)
  refine wpAny_call (codeAny_mono (F.run A X.stack s H ⟨[u, v], []⟩ [u, v] [x, y] _ E sb.room e0 (by
    have := hb s [u, v] I.kIn (by simpa using hl)
    simpa using this) r2 h) fun r s' hq => ?_)
  cases r with
  | error e => exact hx pins σ H s e s' I hq
  | ok fl =>
    cases fl with
    | ret w =>
      obtain ⟨z, H', I', rz, b, ez, q⟩ := I.after hq
      subst ez
      exact ⟨b, H', rz, I', q⟩
    | next => exact False.elim hq
    | brk => exact False.elim hq
    | cont => exact False.elim hq
/-- the type of y doesn't come first -/
def NotFirst (K : PySem.W.Frag) (C : Addr) (H : Hp) (y : V) : Prop := ∃ t, TyX K H y t ∧ PySem.W.notFirst K C t = true
def rEqO (K : PySem.W.Frag) (C : Addr) (sp : Sp) (E : XK) : R2 := fun x y H Q => ∃ a dx fs, x = .ref a ∧ H a = some (.ins C dx fs) ∧ NotFirst K C H y ∧ EqS sp E x y H fun b H' => Q (.bl b) H'
theorem op_eqO (F : FnOk X.prog X.w X.K X.mg X.base CX n f fd ps sp) (T : OwnQ X.K C f) (hb : L2.Binds X.K fd ps []) (hx : Passes CX X E) (hr : Room n X.A) : OpR X (compareOp .Eq) (rEqO X.K C sp E) := by
  intro pins s σ H x y u v Q I rx ry h
  obtain ⟨a, dx, fs, rfl, ha, ⟨t, ty, nf⟩, h⟩ := h
  cases rx
  obtain ⟨mA, J, _⟩ := ins_get I.hok ha
  obtain ⟨od, J, _⟩ := J.look
  obtain ⟨m, hF⟩ := I.fr
  obtain ⟨P, kx, hP, _⟩ := kit_of I ry ty
  show wpAny (model X.prog X.w) X.A (richCompare .Eq (.ref a) v) (EP X pins σ Q) X.xe s
  refine PySem.W.cmp_K (op := .Eq) hr.units0 hF I.ok.mod.kin J (kx.ty _ _ I.kIn hP) nf T.eq T.fn ?_
  refine wpAny_mono (own_call F hb hx ⟨hr, rfl⟩ (x := .ref a) (u := .ref a) I rfl ry h) (fun r s' q => ?_) fun _ _ x => x
  obtain ⟨b, H', rfl, I', q⟩ := q
  exact ⟨.bl b, H', I', rfl, q⟩
/-! ### != -/
theorem try_ne {A : Around} {pins : List (Addr × Obj)} {s : Shared} {σ : L2.St} {H : Hp} {a dx : Addr} {fs : List (Str × V)} {v : Value} {Q : Option Value → Shared → Prop} {E' : Value → Shared → Prop} (T : OwnQ X.K C f) (I : Inv X pins σ H s) (ha : H a = some (.ins C dx fs)) (hu : A.in1.units < cLine)
    (h : wpAny (model X.prog X.w) A.in1 (call (.ref f) [.ref a, v]) (fun r s' => ∃ b, r = .bool b ∧ Q (some (.bool !b)) s') E' s) : wpAny (model X.prog X.w) A (tryCompare (.ref a) "__ne__" v) Q E' s := by
  obtain ⟨mA, J, _⟩ := ins_get I.hok ha
  obtain ⟨od, J, _⟩ := J.look
  have X' := I.kIn
  have body : wpAny (model X.prog X.w) A (call (.builtin "object.__ne__") [.ref a, v]) (fun r s' => ∃ b, r = .bool b ∧ Q (some (.bool b)) s') E' s := by
    refine wpAny_call (codeAny_call_builtin PySem.F.cmp_object.ne.plain PySem.F.cmpEntry_ne (PySem.W.check_slot PySem.F.cmpKind_ne PySem.F.cmpSplit_ne (J.type.andThen (PySem.W.looks_subIn X' T.ob)) (PySem.F.cmpArgs_ne _ _) ?_))
    unfold Builtin.«object.__ne__»
    show wpAny _ _ (cRoomFor "comparison" [.ref a, v] >>= _) _ _ _
    refine wpAny_bind (wpAny_cRoomFor hu ?_)
    refine wpAny_bind (PySem.W.ifBound_K X' J T.eq T.fn (wpAny_mono h (fun r s' q => ?_) fun _ _ x => x))
    obtain ⟨b, rfl, q⟩ := q
    exact wpAny_bind (wpAny_truthy_bool (wpAny_pure ⟨!b, rfl, q⟩))
  unfold tryCompare
  simp only [callSpecialIfBound?, bindSpecialIfBound?]
  have fin : wpAny (model X.prog X.w) A (call (.builtin "object.__ne__") ([.ref a] ++ [v]) >>= fun v => pure (some v)) (fun r s' => ∃ b, r = some (.bool b) ∧ Q (some (.bool b)) s') E' s := wpAny_bind (wpAny_mono body (fun r s' h' => wpAny_pure (by obtain ⟨b, rfl, q⟩ := h'; exact ⟨b, rfl, q⟩)) fun _ _ h' => h')
  refine wpAny_bind (wpAny_mono (Q := fun r s' => ∃ b, r = some (.bool b) ∧ Q (some (.bool b)) s') (wpAny_holding (wpAny_bind (wpAny_bind (wpAny_bind (J.type.here ((PySem.W.looks_findIn X' T.ne).here ?_)))))) (fun r s' q => ?_) fun _ _ x => x)
  · refine wpAny_bind (wpAny_askSetting (wpAny_ite ?_))
    rw [PySem.F.cmp_object.ne.bind]
    split
    · exact wpAny_bind (wpAny_pure (wpAny_pure (by exact fin)))
    · exact wpAny_tryCatch (wpAny_bind (wpAny_pure (wpAny_pure (by exact fin))))
  · obtain ⟨b, rfl, q⟩ := q
    exact wpAny_pure q
theorem op_neO (F : FnOk X.prog X.w X.K X.mg X.base CX n f fd ps sp) (T : OwnQ X.K C f) (hb : L2.Binds X.K fd ps []) (hx : Passes CX X E) (hr : Room (n + 1) X.A) : OpR X (compareOp .NotEq) (fun x y H Q => rEqO X.K C sp E x y H fun v H' => ∃ b, v = .bl b ∧ Q (.bl !b) H') := by
  intro pins s σ H x y u v Q I rx ry h
  obtain ⟨a, dx, fs, rfl, ha, ⟨t, ty, nf⟩, h⟩ := h
  cases rx
  obtain ⟨mA, J, _⟩ := ins_get I.hok ha
  obtain ⟨od, J, _⟩ := J.look
  obtain ⟨P, kx, hP, _⟩ := kit_of I ry ty
  have hty := kx.ty (model X.prog X.w) _ I.kIn hP
  have one : wpAny (model X.prog X.w) X.A (tryCompare (.ref a) (cmpInfo .NotEq).2.1 v) (fun r s' => ∃ w, r = some w ∧ EP X pins σ Q w s') X.xe s := by
    refine try_ne T I ha hr.in1.units0 (wpAny_mono (own_call F hb hx ⟨hr.in1, rfl⟩ (x := .ref a) (u := .ref a) I rfl ry h) (fun r s' q => ?_) fun _ _ x => x)
    obtain ⟨b, H', rfl, I', b', e, q⟩ := q
    cases e
    exact ⟨b, rfl, _, rfl, .bl !b, H', I', rfl, q⟩
  show wpAny (model X.prog X.w) X.A (richCompare .NotEq (.ref a) v) (EP X pins σ Q) X.xe s
  unfold richCompare
  simp only [oneThing_ref]
  refine wpAny_holding (wpAny_bind (wpAny_cRoomFor (hr.mono (by omega) : Room 0 X.A).units0 ?_))
  refine wpAny_bind (J.type.here (wpAny_bind (hty.here ?_)))
  split
  · rename_i q
    have e : PySem.W.subIn X.K t (.ref C) = some false := by
      rcases Bool.or_eq_true_iff.mp nf with e | e
      · rw [beq_iff_eq.mp e] at q; simp at q
      · exact beq_iff_eq.mp e
    refine wpAny_bind ((PySem.W.looks_subIn I.kIn e).here ?_)
    simp only [Bool.false_eq_true, if_false]
    refine wpAny_bind (wpAny_mono one (fun r s' z => ?_) fun _ _ e => e)
    obtain ⟨v, rfl, hq⟩ := z
    exact wpAny_pure hq
  · refine wpAny_bind (wpAny_pure ?_)
    simp only [Bool.false_eq_true, if_false]
    refine wpAny_bind (wpAny_mono one (fun r s' z => ?_) fun _ _ e => e)
    obtain ⟨v, rfl, hq⟩ := z
    exact wpAny_pure hq
end
/-! ### in -/
open PySem.AutoSeq1 (wpAny_loadPart') in
theorem str_decl (b : Str) (u : Tok) (l C dx : Addr) : Meets (Builtin.«str.__eq__» ⟨[.str b u, .ref l], []⟩) (fun _ R s => s.heap.get? l = some (PySem.W.instObj C dx) ∧ R (.ok (.ret .notImplemented)) s) :=
  .of_wp fun prog w A R s h => by obtain ⟨hp, g, d, tk, os⟩ := s; obtain ⟨hl, h⟩ := h; wp_walk using wpAny_loadPart' hl, wpAny_load hl; exact ⟨_, rfl, h⟩
open PySem.AutoSeq1 (wpAny_loadPart') in
theorem tup_decl {prog : Program} {w : World} (a x : Addr) (items : Array Value) (n : Nat) (dd : Option Addr) (sl : Array (Option Value)) : MeetsIn prog w (Builtin.«tuple.__eq__» ⟨[.ref a, .ref x], []⟩) (fun _ R s => s.heap.get? a = some { cls := .type "tuple", dict := dd, data := .seq items n, slots := sl } ∧ PySem.W.Looks (model prog w) s.heap (isInstance (.ref x) (.type "tuple")) false ∧ R (.ok (.ret .notImplemented)) s) :=
  fun A R s h => by
    obtain ⟨hl, hi, h⟩ := h
    obtain ⟨hp, g, d, tk, os⟩ := s
    wp_walk using wpAny_loadPart' hl, PySem.W.Looks.at hi
    exact h
section
variable {X : Cx} {C : Addr} {sp : Sp} {E : XK}
/-- y is a text, a tuple or None: its own == declines an instance -/
inductive Dcl (K : PySem.W.Frag) (H : Hp) : V → Prop where
  | non : Dcl K H .non
  | str (z : Str) : Dcl K H (.str z)
  | tup {p : Addr} {us : List V} (h : H p = some (.tup us)) : Dcl K H (.ref p)
theorem rc_right {A : Around} {s : Shared} {a f : Addr} {v : Value} {Ty id : String} {Q : Value → Shared → Prop} {E' : Value → Shared → Prop} {od : Option Obj} {ox : Obj} (T : OwnQ X.K C f) (KI : X.K.In s.heap) (J : PySem.W.InstAt s.heap a ox C od) (hv : s.TypeIs v Ty) (hT : Ty ∈ sevenT) (sl : Slot Ty "__eq__" id) (hu : A.units < cLine)
    (hc : ∀ Q' : Value → Shared → Prop, Q' .notImplemented s → wpAny (model X.prog X.w) A (call (.builtin id) [v, .ref a]) Q' E' s)
    (h : wpAny (model X.prog X.w) A (call (.ref f) [.ref a, v]) (fun r s' => ∃ b, r = .bool b ∧ Q (.bool b) s') E' s) : wpAny (model X.prog X.w) A (richCompare .Eq v (.ref a)) Q E' s := by
  unfold richCompare
  simp only [hv.oneThing_none]
  refine wpAny_holding (wpAny_bind (wpAny_cRoomFor hu ?_))
  refine wpAny_bind (wpAny_typeOf hv (wpAny_bind (J.type.here ?_)))
  rw [if_pos (show (Value.type Ty != Value.ref C) = true from rfl)]
  refine wpAny_bind ((PySem.W.looks_subIn KI (T.no Ty hT)).here ?_)
  simp only [Bool.false_eq_true, if_false, Bool.not_false, if_true]
  refine wpAny_bind (m := tryCompare v _ (.ref a)) (wpAny_tryCompare_declines hv sl (hc _ ⟨rfl, ?_⟩))
  dsimp only
  refine wpAny_bind (m := tryCompare (.ref a) _ v) ?_
  unfold tryCompare
  refine wpAny_bind (PySem.W.ifBound_K KI J T.eq T.fn (wpAny_mono h (fun r s' q => ?_) fun _ _ x => x))
  obtain ⟨b, rfl, q⟩ := q
  exact wpAny_pure (wpAny_pure q)
theorem eqB_right {CX : CXT} {f : Addr} {fd : FuncData} {ps : List Str} {n : Nat} (F : FnOk X.prog X.w X.K X.mg X.base CX n f fd ps sp) (T : OwnQ X.K C f) (hb : L2.Binds X.K fd ps []) (hx : Passes CX X E) {A : Around} {pins : List (Addr × Obj)} {s : Shared} {σ : L2.St} {H : Hp} {a dx : Addr} {fs : List (Str × V)} {y : V} {v : Value} {Q : Bool → Hp → Prop} (sb : Sub X (n + 1) A) (I : Inv X pins σ H s) (ha : H a = some (.ins C dx fs)) (dy : Dcl X.K H y) (ry : RelV y v) (h : EqS sp E (.ref a) y H Q) :
    wpAny (model X.prog X.w) A (eqBool v (.ref a)) (fun b s' => ∃ H', Inv X pins σ H' s' ∧ Q b H') X.xe s := by
  obtain ⟨mA, J, _⟩ := ins_get I.hok ha
  obtain ⟨od, J, _⟩ := J.look
  have hcall := own_call F hb hx (sb.mono (Nat.le_succ n)) (x := .ref a) (u := .ref a) I rfl ry h
  have hcall' : wpAny (model X.prog X.w) A (call (.ref f) [.ref a, v]) (fun r s' => ∃ b, r = .bool b ∧ wpAny (model X.prog X.w) A (truthOfDropped (.bool b)) (fun b s' => ∃ H', Inv X pins σ H' s' ∧ Q b H') X.xe s') X.xe s := wpAny_mono hcall (fun r s' q => by
    obtain ⟨b, H', e, I', q⟩ := q
    exact ⟨b, e, wpAny_truthy_bool ⟨H', I', q⟩⟩) fun _ _ x => x
  unfold eqBool
  cases dy with
  | non =>
    cases ry
    refine wpAny_holding (wpAny_ite_split (fun hab => absurd (eq_of_beq hab) nofun) fun _ => ?_)
    exact wpAny_bind (rc_right T I.kIn J rfl (by decide) PySem.F.slot_NoneType_eq sb.room.units0 (fun _ hq => call_gives PySem.F.slot_NoneType_eq rfl PySem.F.entry_NoneType_eq (PySem.F.args_NoneType_eq_2 _ _) (SeqAt.NoneType___eq___none_ref_0 a) hq) hcall')
  | str z =>
    obtain ⟨t, rfl⟩ := ry
    refine wpAny_holding (wpAny_ite_split (fun hab => absurd (eq_of_beq hab) nofun) fun _ => ?_)
    exact wpAny_bind (rc_right T I.kIn J (typeIs_str _ _ _) (by decide) PySem.F.slot_str_eq sb.room.units0 (fun _ hq => call_meets PySem.F.slot_str_eq (typeIs_str _ _ _) PySem.F.entry_str_eq (PySem.F.args_str_eq_2 _ _) (str_decl z t a C dx) ⟨J.at_, hq⟩) hcall')
  | @tup p us e =>
    cases ry
    obtain ⟨its, r, ⟨⟨cls, dd, data, sl⟩, e2, hc, n2, hd⟩, z2⟩ := I.tuple (.inl (.inl e))
    simp only at hc hd
    subst hc hd
    refine wpAny_holding (wpAny_ite_split (fun hab => ?_) fun _ => ?_)
    · have z := eq_of_beq hab
      cases z
      rw [e] at ha
      cases ha
    · exact wpAny_bind (rc_right T I.kIn J ⟨_, e2, rfl⟩ (by decide) PySem.F.slot_tuple_eq sb.room.units0 (fun _ hq => call_meetsIn PySem.F.slot_tuple_eq ⟨_, e2, rfl⟩ PySem.F.entry_tuple_eq (PySem.F.args_tuple_eq_2 _ _) (tup_decl p a _ n2 dd sl) ⟨e2, J.type.andThen (PySem.W.looks_subIn I.kIn (T.no "tuple" (by decide))), hq⟩) hcall')
/-- no item's == answers yes -/
def NoneIs (K : PySem.W.Frag) (C : Addr) (sp : Sp) (E : XK) (a : Addr) (H : Hp) (y : V) : Prop := Dcl K H y ∧ EqS sp E (.ref a) y H fun b H' => b = false ∧ H' = H
theorem in_loop {CX : CXT} {f : Addr} {fd : FuncData} {ps : List Str} {n : Nat} (F : FnOk X.prog X.w X.K X.mg X.base CX n f fd ps sp) (T : OwnQ X.K C f) (hb : L2.Binds X.K fd ps []) (hx : Passes CX X E) {A : Around} {pins : List (Addr × Obj)} {σ : L2.St} {H : Hp} {a dx l : Addr} {fs : List (Str × V)} {xs : List V} {R : Result → Shared → Prop}
    (sb : Sub X (n + 2) A) (ha : H a = some (.ins C dx fs)) (hl : H l = some (.lst xs)) (hn : ∀ y ∈ xs, NoneIs X.K C sp E a H y) (hR : ∀ s', Inv X pins σ H s' → R (.ok (.ret (.bool false))) s') (hE : ∀ e s', X.xe e s' → R (.error e) s') (k : Nat) :
    ∀ i : Nat, xs.length - i = k → ∀ s, Inv X pins σ H s → wpAny (model X.prog X.w) A.in1 (Builtin.«list.__contains__.loop» ⟨[.ref l, .ref a, rawInt i], []⟩) (GQ.FinOf X.prog X.w A R) (fun e s' => R (.error e) s') s := by
  induction k with
  | zero =>
    intro i hk s I
    obtain ⟨z, its, m, r, e⟩ := I.hok l _ hl
    have hR' := hR s I
    obtain ⟨hp, g, d, tk, os⟩ := s
    wp_walk using PySem.AutoSeq1.wpAny_loadPart' e
    have hlen := r.length
    have hi : its.toArray[((i : Nat) : Int).toNat]? = none := by simp; omega
    rw [hi]
    wp_walk
    exact hR'
  | succ k ih =>
    intro i hk s I
    obtain ⟨z, its, m, r, e⟩ := I.hok l _ hl
    have hlen := r.length
    have hlt : i < its.length := by omega
    have hlx : i < xs.length := by omega
    obtain ⟨u, hu, ru⟩ := r.get (List.getElem?_eq_getElem hlx)
    have hi : its.toArray[((i : Nat) : Int).toNat]? = some u := by simpa using hu
    obtain ⟨dy, hy⟩ := hn _ (List.getElem_mem hlx)
    have step := eqB_right F T hb hx (A := A.in1) (pins := pins) (s := s) (σ := σ) (v := u) ⟨sb.room.in1, sb.fr⟩ I ha dy ru hy
    obtain ⟨hp, g, d, tk, os⟩ := s
    wp_walk using PySem.AutoSeq1.wpAny_loadPart' e
    rw [hi]
    refine wpAny_bind (wpAny_mono step (fun b s2 q => ?_) fun e' s' x => hE e' s' x)
    obtain ⟨H', I', rfl, rfl⟩ := q
    have hc : ((i : Int) + 1) = ((i + 1 : Nat) : Int) := by omega
    have hrec := ih (i + 1) (by omega) s2 I'
    obtain ⟨hp2, g2, d2, tk2, os2⟩ := s2
    wp_walk
    rw [hc]
    exact ⟨plainId_quiet PySem.MeetsSeq.plain_contains_loop _, codeAny_builtin PySem.MeetsSeq.entry_contains_loop (by
      rw [Around.under_plainId PySem.MeetsSeq.plain_contains_loop _]
      exact hrec)⟩
def rInO (K : PySem.W.Frag) (C : Addr) (sp : Sp) (E : XK) : R2 := fun x y H Q => ∃ a dx fs l xs, x = .ref a ∧ H a = some (.ins C dx fs) ∧ y = .ref l ∧ H l = some (.lst xs) ∧ (∀ y ∈ xs, NoneIs K C sp E a H y) ∧ Q (.bl false) H
theorem op_inO {CX : CXT} {f : Addr} {fd : FuncData} {ps : List Str} {n : Nat} (F : FnOk X.prog X.w X.K X.mg X.base CX n f fd ps sp) (T : OwnQ X.K C f) (hb : L2.Binds X.K fd ps []) (hx : Passes CX X E) (hr : Room (n + 2) X.A) : OpR X (compareOp .In) (rInO X.K C sp E) := by
  intro pins s σ H x y u v Q I rx ry h
  obtain ⟨a, dx, fs, l, xs, rfl, ha, rfl, hl, hn, q⟩ := h
  cases rx
  cases ry
  obtain ⟨z, its, m, r, e⟩ := I.hok l _ hl
  show wpAny (model X.prog X.w) X.A (do return Value.bool (← contains (.ref l) (.ref a))) (EP X pins σ Q) X.xe s
  refine wpAny_bind (wpAny_contains_slot (T := "list") ⟨_, e, rfl⟩ PySem.F.slot_list_contains ?_)
  have hrec := in_loop (R := wants (fun r s' => wpAny (model X.prog X.w) X.A (truthy r) (fun b s' => wpAny (model X.prog X.w) X.A (pure (Value.bool b)) (EP X pins σ Q) X.xe s') X.xe s') X.xe) F T hb hx (A := X.A) ⟨hr, rfl⟩ ha hl hn
    (fun s' I' => wpAny_truthy_bool (wpAny_pure ⟨.bl false, H, I', rfl, q⟩)) (fun e s' x => x) _ 0 rfl s I
  refine GQ.call_here PySem.F.slot_list_contains ⟨_, e, rfl⟩ PySem.F.entry_list_contains (PySem.F.args_list_contains_2 _ _) ?_
  obtain ⟨hp, g, d, tk, os⟩ := s
  wp_walk using PySem.AutoSeq1.wpAny_loadPart' e
  exact ⟨plainId_quiet PySem.MeetsSeq.plain_contains_loop _, codeAny_builtin PySem.MeetsSeq.entry_contains_loop (by
    rw [Around.under_plainId PySem.MeetsSeq.plain_contains_loop _]
    exact hrec)⟩
end
end Us
set_option maxRecDepth 100000
set_option maxHeartbeats 2000000
namespace Us
open PySem PySem.Spec PyProof.Rows L2
theorem pmk_supX {X : Cx} {d : SupT} {te : TE} {x : Str} {e : Expr} {p pos : Pos} {k : Nat} (ex : d.x = x) (S : SupOk X.prog X.K d) (gC : X.mg x = some (.ref (He.ga X.K x))) (hr : Room (k + 2) X.A) (hg : Gl X x) (he : PE X e te)
    (hdb : (x == ("__debug__" : Str)) = false := by decide) (hs : starEach [e] X.env = (false, eval e X.env) :: starEach [] X.env := by rfl) : PMk X (.Call (.Name x p) [e] [] pos) (tSup (He.ga X.K x) d.F te) := by
  subst ex
  exact pmk_sup (CX := CX0) S gC hr hg pass0 he hdb hs
theorem iteNF {A B : Prop} (h : B) : if (!true) = true then A else B := h
theorem iteNT {A B : Prop} (h : A) : if (!false) = true then A else B := h
/-! ### == of sequences of ints, of flags -/
theorem lay_ints : ∀ ms : List Nat, PyData.canLayAll0 (ms.map fun m : Nat => PyData.int (m : Int)) = true ∧ PyData.depthAll (ms.map fun m : Nat => PyData.int (m : Int)) ≤ 1
  | [] => ⟨by simp [PyData.canLayAll0], by simp [PyData.depthAll]⟩
  | m :: ms => by
    have h := lay_ints ms
    exact ⟨by simp [PyData.canLayAll0, PyData.canLay0, h.1], by simp [PyData.depthAll, PyData.depth]; exact h.2⟩
theorem lay_bls : ∀ bs : List Bool, PyData.canLayAll0 (bs.map PyData.bool) = true ∧ PyData.depthAll (bs.map PyData.bool) ≤ 1
  | [] => ⟨by simp [PyData.canLayAll0], by simp [PyData.depthAll]⟩
  | m :: ms => by
    have h := lay_bls ms
    exact ⟨by simp [PyData.canLayAll0, PyData.canLay0, h.1], by simp [PyData.depthAll, PyData.depth]; exact h.2⟩
theorem eqv_ints : ∀ ms ns : List Nat, PyData.eqvAll (ms.map fun m : Nat => PyData.int (m : Int)) (ns.map fun m : Nat => PyData.int (m : Int)) = decide (ms = ns)
  | [], [] => by simp [PyData.eqvAll]
  | [], n :: ns => by simp [PyData.eqvAll]
  | m :: ms, [] => by simp [PyData.eqvAll]
  | m :: ms, n :: ns => by
    rw [List.map_cons, List.map_cons, PyData.eqvAll, eqv_ints ms ns]
    have e : PyData.eqv (.int (m : Int)) (.int (n : Int)) = decide (m = n) := by
      simp only [PyData.eqv]
      by_cases h : m = n
      · subst h; simp
      · rw [decide_eq_false h]; exact beq_eq_false_iff_ne.mpr (by omega)
    rw [e]
    by_cases h : m = n <;> by_cases h2 : ms = ns <;> simp [h, h2]
theorem eqv_bls : ∀ ms ns : List Bool, PyData.eqvAll (ms.map PyData.bool) (ns.map PyData.bool) = decide (ms = ns)
  | [], [] => by simp [PyData.eqvAll]
  | [], n :: ns => by simp [PyData.eqvAll]
  | m :: ms, [] => by simp [PyData.eqvAll]
  | m :: ms, n :: ns => by
    rw [List.map_cons, List.map_cons, PyData.eqvAll, eqv_bls ms ns]
    have e : PyData.eqv (.bool m) (.bool n) = decide (m = n) := by
      cases m <;> cases n <;> simp [PyData.eqv]
    rw [e]
    by_cases h : m = n <;> by_cases h2 : ms = ns <;> simp [h, h2]
theorem dp_ints {K : PySem.W.Frag} {H : Hp} : ∀ ms : List Nat, DpAll K H (ms.map fun m : Nat => V.int (m : Int)) (ms.map fun m : Nat => PyData.int (m : Int))
  | [] => .nil
  | m :: ms => .cons (.int _) (dp_ints ms)
theorem dp_bls {K : PySem.W.Frag} {H : Hp} : ∀ ms : List Bool, DpAll K H (ms.map V.bl) (ms.map PyData.bool)
  | [] => .nil
  | m :: ms => .cons (.bl _) (dp_bls ms)
theorem i_eqTn {K : PySem.W.Frag} {H : Hp} {Q : VK} {p q : Addr} {ms ns : List Nat} (hp : H p = some (.tup (ms.map fun m : Nat => V.int (m : Int)))) (hq : H q = some (.tup (ns.map fun m : Nat => V.int (m : Int)))) (k : Q (.bl (decide (ms = ns))) H) : rEqD K (.ref p) (.ref q) H Q := by
  have sh : ∀ l : List Nat, SeqAt.shaped (.tuple (l.map fun m : Nat => PyData.int (m : Int))) = true := fun l => by
    have h := lay_ints l
    have h2 := h.2
    simp only [SeqAt.shaped, PyData.canLay0, PyData.depth, h.1, Bool.true_and]
    exact decide_eq_true (by omega)
  refine ⟨_, _, .tup (SqT.of hp) (dp_ints ms), .tup (SqT.of hq) (dp_ints ns), sh ms, sh ns, ?_⟩
  rw [show PyData.eqv (.tuple (ms.map fun m : Nat => PyData.int (m : Int))) (.tuple (ns.map fun m : Nat => PyData.int (m : Int))) = decide (ms = ns) by rw [← eqv_ints]; simp only [PyData.eqv]]
  exact k
theorem i_eqLb {K : PySem.W.Frag} {H : Hp} {Q : VK} {p q : Addr} {ms ns : List Bool} (hp : H p = some (.lst (ms.map V.bl))) (hq : H q = some (.lst (ns.map V.bl))) (k : Q (.bl (decide (ms = ns))) H) : rEqD K (.ref p) (.ref q) H Q := by
  have sh : ∀ l : List Bool, SeqAt.shaped (.list (l.map PyData.bool)) = true := fun l => by
    have h := lay_bls l
    have h2 := h.2
    simp only [SeqAt.shaped, PyData.canLay0, PyData.depth, h.1, Bool.true_and]
    exact decide_eq_true (by omega)
  refine ⟨_, _, .lst (SqL.of hp) (dp_bls ms), .lst (SqL.of hq) (dp_bls ns), sh ms, sh ns, ?_⟩
  rw [show PyData.eqv (.list (ms.map PyData.bool)) (.list (ns.map PyData.bool)) = decide (ms = ns) by rw [← eqv_bls]; simp only [PyData.eqv]]
  exact k
end Us
namespace Us
open PySem PySem.Spec PyProof.Rows L2
theorem i_isO {K : PySem.W.Frag} {H : Hp} {v : V} {C : Addr} {t : Value} {b : Bool} {Q : VK} (h : TyX K H v t) (k : PySem.W.kitOne K t (.ref C) = some b) (q : Q (.bl b) H) : rIsi K [v, .ref C] H Q := ⟨v, .ref C, t, _, b, rfl, .own C, h, k, q⟩
theorem ins_ty {K : PySem.W.Frag} {H : Hp} {a C dx : Addr} {fs : List (Str × V)} (h : H a = some (.ins C dx fs)) (c : OwnC K C) : TyX K H (.ref a) (.ref C) := .base (.ins h c.cl c.ha c.hn c.ht c.hm)
theorem dcl_ty {K : PySem.W.Frag} {H : Hp} {v : V} (h : Dcl K H v) : ∃ n ∈ sevenT, TyX K H v (.type n) := by
  cases h with
  | non => exact ⟨"NoneType", by decide, .base .non⟩
  | str z => exact ⟨"str", by decide, .base (.str z)⟩
  | tup h => exact ⟨"tuple", by decide, .base (.tup h)⟩
theorem Dcl.mono {K : PySem.W.Frag} {B H : Hp} {v : V} (s : Same B H) (h : Dcl K B v) : Dcl K H v := by
  cases h with
  | non => exact .non
  | str z => exact .str z
  | tup h => exact .tup (s _ _ h)
end Us
namespace Us
open PySem PySem.Spec PyProof.Rows L2
theorem i_iRng2 {tr : TA} {σ : L2.St} {H : Hp} {R : It → Hp → Prop} (h : tr σ H fun vs H1 => ∃ i j : Int, vs = [.int i, .int j] ∧ (-(2 ^ 62) ≤ i ∧ i < 2 ^ 62 ∧ -(2 ^ 62) ≤ j ∧ j < 2 ^ 62) ∧ R (Itr i (j - i).toNat) H1) : iRng2 tr σ H R := h
theorem i_iStr {te : TE} {σ : L2.St} {H : Hp} {R : It → Hp → Prop} (h : te σ H fun v H1 => ∃ x, v = .str x ∧ R (Its x) H1) : iStr te σ H R := h
end Us
namespace Us
open PySem PySem.Spec PyProof.Rows L2
theorem passNo {X : Cx} : Passes (L2.CX X.prog X.w) X (fun _ _ _ => False) := fun _ _ _ _ _ _ _ h => by
  obtain ⟨_, _, _, _, _, _, _, _, _, _, _, _, z⟩ := h
  exact z.elim
def tMakeS (C : Addr) (sp : Sp) (E : L2.St → XK) (t : TA) : TE := fun σ H Q => t σ H fun vs H1 => ∀ x dx, H1 x = none → H1 dx = none → dx ≠ x → sp (.ref x :: vs) (upd (upd H1 dx (.own x)) x (.ins C dx [])) (fun v H2 => v = .non ∧ Q (.ref x) H2) (E σ)
theorem i_makeS {C : Addr} {sp : Sp} {E : L2.St → XK} {t : TA} {σ : L2.St} {H : Hp} {Q : VK} (h : t σ H fun vs H1 => ∀ x dx, H1 x = none → H1 dx = none → dx ≠ x → sp (.ref x :: vs) (upd (upd H1 dx (.own x)) x (.ins C dx [])) (fun v H2 => v = .non ∧ Q (.ref x) H2) (E σ)) : tMakeS C sp E t σ H Q := h
section
variable {X : Cx} {CX : CXT} {k : Nat} {f C : Addr} {fd : FuncData} {ps : List Str} {sp : Sp} {E : L2.St → XK} {x : Str} {p pos : Pos} {e : Expr} {es : List Expr} {t : TA}
theorem pe_makeS (M : Mk X.K C f) (F : FnOk X.prog X.w X.K X.mg X.base CX k f fd ps sp) (hr : Room (k + 1) X.A) (hg : Gl X x) (hm : X.mg x = some (.ref C)) (hb : L2.Binds X.K fd ps []) (hx : ∀ σ, PassesAt CX X σ (E σ))
    (ha : PA X (e :: es) t) (hdb : (x == ("__debug__" : Str)) = false := by decide) (he : starEach (e :: es) X.env = (false, eval e X.env) :: starEach es X.env := by rfl) (hpl : (backTo pos (starEach es X.env)).any (·.1) = false := by rfl) :
    PE X (.Call (.Name x p) (e :: es) [] pos) (tMakeS C sp E t) := by
  refine ⟨fun pins s σ H Q I h => ?_⟩
  refine wpAny_Call_Name_kw (ld_glob I hg hm ?_ hdb)
  refine PySem.W.callWith_K (h₀ := X.base) I.ok.mod.kin M.kp (thn (ha.run pos pins s σ H _ I h) fun us s1 ⟨vs, H1, I1, r, q⟩ => ⟨I1.kIn, ?_⟩) he hpl
  have hq := q (s1.heap.objs.size + 1) s1.heap.objs.size (I1.hok.fresh (Nat.le_succ _)) (I1.hok.fresh (Nat.le_refl _)) (Nat.ne_of_lt (Nat.lt_succ_self _))
  have I2 := Inv.made (C := C) I1
  have r2 : Vals (V.ref (s1.heap.objs.size + 1) :: vs) (Value.ref (s1.heap.objs.size + 1) :: us) := .cons rfl r
  have hl : (Value.ref (s1.heap.objs.size + 1) :: us).length = ps.length := by
    have e := r2.length
    rw [F.len _ _ _ _ hq] at e
    exact e.symm
  have hbb := hb _ (Value.ref (s1.heap.objs.size + 1) :: us) I2.kIn (by rw [List.append_nil]; exact hl)
  rw [List.append_nil] at hbb
  refine wpAny_call (make_map (f := f) I1.kIn M.makes M.init (beq_iff_eq.mp M.fn) (codeAny_mono (F.run _ X.stack _ _ ⟨Value.ref (s1.heap.objs.size + 1) :: us, []⟩ (Value.ref (s1.heap.objs.size + 1) :: us) _ _ (E σ) (hr.make C us [])
    (I2.env0.make C us []) hbb r2 hq) fun r s' hq' => ?_))
  cases r with
  | error e => exact hx σ pins _ _ e s' I2 hq'
  | ok fl =>
    cases fl with
    | ret u =>
      obtain ⟨v, H', I3, rv, ev, q3⟩ := I2.after hq'
      subst ev
      exact ⟨rv, ⟨V.ref (s1.heap.objs.size + 1), H', I3, rfl, q3⟩⟩
    | next => exact False.elim hq'
    | brk => exact False.elim hq'
    | cont => exact False.elim hq'
end
end Us
namespace Us
open PySem PySem.Spec PyProof.Rows L2
def rIsD (K : PySem.W.Frag) (cls : Value) (d : Option Addr) (a : Addr) : List V → Hp → VK → Prop := fun xs H Q => ∃ (D dd : Addr) (fs : List (Str × V)) (c : V) (cv : Value) (b : Bool), cls = .ref D ∧ d = some dd ∧ H dd = some (.xd fs) ∧ ExcC K D ∧ xs = [.ref a, c] ∧ (∀ u, RelV c u → u = cv) ∧ PySem.W.kitOne K (.ref D) cv = some b ∧ Q (.bl b) H
theorem call_isD {X : Cx} {a : Addr} {oe : Obj} {pn : List (Addr × Obj)} {cls : Value} {d : Option Addr} (hz : Zc cls d oe) (hf : ∃ vs, oe.data = .fields vs) : CallR (X.suite a ((a, oe) :: pn)) (.builtin "isinstance") (rIsD X.K cls d a) := by
  intro pins s σ H xs us Q I r h
  obtain ⟨D, dd, fs, c, cv, b, rfl, rfl, hdd, C, rfl, hcv, e, q⟩ := h
  obtain ⟨u1, u2, rfl, rx, rt⟩ := vals2 r
  cases rx
  have ec := hcv _ rt
  subst ec
  obtain ⟨hget, _⟩ := I.pin (a, oe) (List.mem_append.mpr (.inl List.mem_cons_self))
  obtain ⟨vs, hv⟩ := hf
  have hx : ObjOk X.prog X.w H s.heap dd (.xd fs) := I.hok dd _ hdd
  obtain ⟨mA, hns, _⟩ := hx
  obtain ⟨od, ho, _⟩ := lookIn_ns hns
  have J : PySem.W.InstAt s.heap a oe D (some od) := ⟨hget, hz.1, by unfold PySem.W.notCls; rw [hv] <;> rfl, by rw [hz.2]; exact ho⟩
  have hcl : (PySem.W.clsIn X.K D).isSome = true := by
    obtain ⟨cd, hc, _⟩ := PySem.W.any_some C.hd
    rw [hc]; rfl
  exact PySem.W.kia_one (PySem.W.kitx_exc hcl C.hg C.hk C.hs C.ha C.hn C.ht C.hm) I.kIn J e (fun z => nomatch z) fun tk => ⟨.bl b, H, I.kept (t' := tk) fun _ _ z => z, rfl, q⟩
theorem i_isD {K : PySem.W.Frag} {D dd : Addr} {fs : List (Str × V)} {a : Addr} {c : V} {H : Hp} {Q : VK} {cv : Value} {b : Bool} (h : H dd = some (.xd fs)) (C : ExcC K D) (hu : ∀ u, RelV c u → u = cv) (hk : PySem.W.kitOne K (.ref D) cv = some b) (q : Q (.bl b) H) : rIsD K (.ref D) (some dd) a [.ref a, c] H Q := ⟨D, dd, fs, c, cv, b, rfl, rfl, h, C, rfl, hu, hk, q⟩
def optS : Option Str → V
  | none => .non
  | some z => .str z
end Us
namespace Us
open PySem PySem.Spec PyProof.Rows L2
/-- within a comprehension's block: the fragment is named -/
theorem pi_tupK {X : Cx} {tg e : Expr} {te : TE} (K : PySem.W.Frag) (hK : X.K = K) (he : PE X e te) : PI X tg e (iTup K te) := by subst hK; exact pi_tup he
theorem pi_listK {X : Cx} {tg e : Expr} {te : TE} (K : PySem.W.Frag) (hK : X.K = K) (he : PE X e te) : PI X tg e (iList K te) := by subst hK; exact pi_list he
end Us
set_option maxRecDepth 100000
set_option maxHeartbeats 0
namespace K10
open PySem PySem.Spec PyProof.Rows L2
/-! ### the text by places -/
def topS (i : Nat) : Stmt := PySem.Challenge.pw_usecounts_k10_whole_texts_there_and_back.main.body.getD i (.Pass ⟨0, 0, 0, 0⟩)
abbrev s_is_integer : Stmt := topS 8
abbrev s_is_within : Stmt := topS 9
abbrev s_is_pair : Stmt := topS 10
abbrev s_is_name : Stmt := topS 11
abbrev s_is_kind_there : Stmt := topS 16
abbrev s_is_kind_of_any_size : Stmt := topS 17
abbrev s_check_kind : Stmt := topS 18
abbrev s_is_take : Stmt := topS 22
abbrev s_is_word : Stmt := topS 23
abbrev s_is_whole : Stmt := topS 24
abbrev s_is_program_there : Stmt := topS 25
abbrev s_check_program : Stmt := topS 26
abbrev s_kind_text_of : Stmt := topS 28
abbrev s_program_text_of : Stmt := topS 29
abbrev s_kind_text : Stmt := topS 30
abbrev s_program_text : Stmt := topS 31
abbrev s_Reader__init : Stmt := inClass (topS 33) 0
abbrev s_Reader_sign : Stmt := inClass (topS 33) 1
abbrev s_Reader_is_small : Stmt := inClass (topS 33) 2
abbrev s_Reader_need : Stmt := inClass (topS 33) 3
abbrev s_Reader_name : Stmt := inClass (topS 33) 4
abbrev s_Reader_letter : Stmt := inClass (topS 33) 5
abbrev s_Reader_finish : Stmt := inClass (topS 33) 6
abbrev s_joined_kind : Stmt := topS 34
abbrev s_kind_in : Stmt := topS 35
abbrev s_whole_kind : Stmt := topS 36
abbrev s_read_kind : Stmt := topS 37
abbrev s_whole_program : Stmt := topS 38
abbrev s_read_program : Stmt := topS 39
abbrev s_law_hand : Stmt := topS 41
abbrev s_law_draw : Stmt := topS 42
abbrev s_law_some : Stmt := topS 43
abbrev s_law_shuffled : Stmt := topS 44
abbrev s_law_is : Stmt := topS 45
abbrev s_law_kind : Stmt := topS 46
abbrev s_law_ends : Stmt := topS 47
abbrev s_law_known : Stmt := topS 48
abbrev s_law_some_program : Stmt := topS 49
abbrev s_law_spans : Stmt := topS 50
abbrev s_law_heads : Stmt := topS 51
abbrev s_law_fit : Stmt := topS 52
abbrev s_law_loose : Stmt := topS 53
abbrev s_law_kind_text : Stmt := topS 54
abbrev s_law_text : Stmt := topS 55
abbrev s_law_any_kind : Stmt := topS 56
abbrev s_law_long_kind : Stmt := topS 57
abbrev s_law : Stmt := topS 58
abbrev n_is_integer : List Str := ["thing"]
abbrev p_is_integer : List Str := ["thing"]
theorem sc_is_integer : FnScope n_is_integer p_is_integer (defScope s_is_integer) := ⟨rfl, rfl, rfl, by decide +kernel, rfl, by decide +kernel, by decide +kernel⟩
abbrev n_is_within : List Str := ["thing", "least", "most"]
abbrev p_is_within : List Str := ["thing", "least", "most"]
theorem sc_is_within : FnScope n_is_within p_is_within (defScope s_is_within) := ⟨rfl, rfl, rfl, by decide +kernel, rfl, by decide +kernel, by decide +kernel⟩
abbrev n_is_pair : List Str := ["thing"]
abbrev p_is_pair : List Str := ["thing"]
theorem sc_is_pair : FnScope n_is_pair p_is_pair (defScope s_is_pair) := ⟨rfl, rfl, rfl, by decide +kernel, rfl, by decide +kernel, by decide +kernel⟩
abbrev n_is_name : List Str := ["thing", "sign"]
abbrev p_is_name : List Str := ["thing"]
theorem sc_is_name : FnScope n_is_name p_is_name (defScope s_is_name) := ⟨rfl, rfl, rfl, by decide +kernel, rfl, by decide +kernel, by decide +kernel⟩
abbrev n_is_kind_there : List Str := ["thing", "waiting", "letters", "here", "deep"]
abbrev p_is_kind_there : List Str := ["thing"]
theorem sc_is_kind_there : FnScope n_is_kind_there p_is_kind_there (defScope s_is_kind_there) := ⟨rfl, rfl, rfl, by decide +kernel, rfl, by decide +kernel, by decide +kernel⟩
abbrev n_is_kind_of_any_size : List Str := ["thing", "waiting", "here"]
abbrev p_is_kind_of_any_size : List Str := ["thing"]
theorem sc_is_kind_of_any_size : FnScope n_is_kind_of_any_size p_is_kind_of_any_size (defScope s_is_kind_of_any_size) := ⟨rfl, rfl, rfl, by decide +kernel, rfl, by decide +kernel, by decide +kernel⟩
abbrev n_check_kind : List Str := ["thing"]
abbrev p_check_kind : List Str := ["thing"]
theorem sc_check_kind : FnScope n_check_kind p_check_kind (defScope s_check_kind) := ⟨rfl, rfl, rfl, by decide +kernel, rfl, by decide +kernel, by decide +kernel⟩
abbrev n_is_take : List Str := ["word"]
abbrev p_is_take : List Str := ["word"]
theorem sc_is_take : FnScope n_is_take p_is_take (defScope s_is_take) := ⟨rfl, rfl, rfl, by decide +kernel, rfl, by decide +kernel, by decide +kernel⟩
abbrev n_is_word : List Str := ["thing"]
abbrev p_is_word : List Str := ["thing"]
theorem sc_is_word : FnScope n_is_word p_is_word (defScope s_is_word) := ⟨rfl, rfl, rfl, by decide +kernel, rfl, by decide +kernel, by decide +kernel⟩
abbrev n_is_whole : List Str := ["words", "many", "word"]
abbrev p_is_whole : List Str := ["words"]
theorem sc_is_whole : FnScope n_is_whole p_is_whole (defScope s_is_whole) := ⟨rfl, rfl, rfl, by decide +kernel, rfl, by decide +kernel, by decide +kernel⟩
abbrev n_is_program_there : List Str := ["thing", "word"]
abbrev p_is_program_there : List Str := ["thing"]
theorem sc_is_program_there : FnScope n_is_program_there p_is_program_there (defScope s_is_program_there) := ⟨rfl, rfl, rfl, by decide +kernel, rfl, by decide +kernel, by decide +kernel⟩
abbrev n_check_program : List Str := ["thing", "word"]
abbrev p_check_program : List Str := ["thing"]
theorem sc_check_program : FnScope n_check_program p_check_program (defScope s_check_program) := ⟨rfl, rfl, rfl, by decide +kernel, rfl, by decide +kernel, by decide +kernel⟩
abbrev n_kind_text_of : List Str := ["kind", "found", "waiting", "here"]
abbrev p_kind_text_of : List Str := ["kind"]
theorem sc_kind_text_of : FnScope n_kind_text_of p_kind_text_of (defScope s_kind_text_of) := ⟨rfl, rfl, rfl, by decide +kernel, rfl, by decide +kernel, by decide +kernel⟩
abbrev n_program_text_of : List Str := ["words", "found", "waiting", "word"]
abbrev p_program_text_of : List Str := ["words"]
theorem sc_program_text_of : FnScope n_program_text_of p_program_text_of (defScope s_program_text_of) := ⟨rfl, rfl, rfl, by decide +kernel, rfl, by decide +kernel, by decide +kernel⟩
abbrev n_kind_text : List Str := ["kind"]
abbrev p_kind_text : List Str := ["kind"]
theorem sc_kind_text : FnScope n_kind_text p_kind_text (defScope s_kind_text) := ⟨rfl, rfl, rfl, by decide +kernel, rfl, by decide +kernel, by decide +kernel⟩
abbrev n_program_text : List Str := ["program"]
abbrev p_program_text : List Str := ["program"]
theorem sc_program_text : FnScope n_program_text p_program_text (defScope s_program_text) := ⟨rfl, rfl, rfl, by decide +kernel, rfl, by decide +kernel, by decide +kernel⟩
abbrev n_Reader__init : List Str := ["self", "text"]
abbrev p_Reader__init : List Str := ["self", "text"]
theorem sc_Reader__init : FnScope n_Reader__init p_Reader__init (defScope s_Reader__init) := ⟨rfl, rfl, rfl, by decide +kernel, rfl, by decide +kernel, by decide +kernel⟩
abbrev n_Reader_sign : List Str := ["self"]
abbrev p_Reader_sign : List Str := ["self"]
theorem sc_Reader_sign : FnScope n_Reader_sign p_Reader_sign (defScope s_Reader_sign) := ⟨rfl, rfl, rfl, by decide +kernel, rfl, by decide +kernel, by decide +kernel⟩
abbrev n_Reader_is_small : List Str := ["self"]
abbrev p_Reader_is_small : List Str := ["self"]
theorem sc_Reader_is_small : FnScope n_Reader_is_small p_Reader_is_small (defScope s_Reader_is_small) := ⟨rfl, rfl, rfl, by decide +kernel, rfl, by decide +kernel, by decide +kernel⟩
abbrev n_Reader_need : List Str := ["self", "signs", "sign"]
abbrev p_Reader_need : List Str := ["self", "signs"]
theorem sc_Reader_need : FnScope n_Reader_need p_Reader_need (defScope s_Reader_need) := ⟨rfl, rfl, rfl, by decide +kernel, rfl, by decide +kernel, by decide +kernel⟩
abbrev n_Reader_name : List Str := ["self", "begin"]
abbrev p_Reader_name : List Str := ["self"]
theorem sc_Reader_name : FnScope n_Reader_name p_Reader_name (defScope s_Reader_name) := ⟨rfl, rfl, rfl, by decide +kernel, rfl, by decide +kernel, by decide +kernel⟩
abbrev n_Reader_letter : List Str := ["self"]
abbrev p_Reader_letter : List Str := ["self"]
theorem sc_Reader_letter : FnScope n_Reader_letter p_Reader_letter (defScope s_Reader_letter) := ⟨rfl, rfl, rfl, by decide +kernel, rfl, by decide +kernel, by decide +kernel⟩
abbrev n_Reader_finish : List Str := ["self"]
abbrev p_Reader_finish : List Str := ["self"]
theorem sc_Reader_finish : FnScope n_Reader_finish p_Reader_finish (defScope s_Reader_finish) := ⟨rfl, rfl, rfl, by decide +kernel, rfl, by decide +kernel, by decide +kernel⟩
abbrev n_joined_kind : List Str := ["rows", "found", "left"]
abbrev p_joined_kind : List Str := ["rows"]
theorem sc_joined_kind : FnScope n_joined_kind p_joined_kind (defScope s_joined_kind) := ⟨rfl, rfl, rfl, by decide +kernel, rfl, by decide +kernel, by decide +kernel⟩
abbrev n_kind_in : List Str := ["reader", "rows", "inner"]
abbrev p_kind_in : List Str := ["reader"]
theorem sc_kind_in : FnScope n_kind_in p_kind_in (defScope s_kind_in) := ⟨rfl, rfl, rfl, by decide +kernel, rfl, by decide +kernel, by decide +kernel⟩
abbrev n_whole_kind : List Str := ["text", "reader", "found"]
abbrev p_whole_kind : List Str := ["text"]
theorem sc_whole_kind : FnScope n_whole_kind p_whole_kind (defScope s_whole_kind) := ⟨rfl, rfl, rfl, by decide +kernel, rfl, by decide +kernel, by decide +kernel⟩
abbrev n_read_kind : List Str := ["text", "found"]
abbrev p_read_kind : List Str := ["text"]
theorem sc_read_kind : FnScope n_read_kind p_read_kind (defScope s_read_kind) := ⟨rfl, rfl, rfl, by decide +kernel, rfl, by decide +kernel, by decide +kernel⟩
abbrev n_whole_program : List Str := ["text", "reader", "found", "waiting", "is_open", "name"]
abbrev p_whole_program : List Str := ["text"]
theorem sc_whole_program : FnScope n_whole_program p_whole_program (defScope s_whole_program) := ⟨rfl, rfl, rfl, by decide +kernel, rfl, by decide +kernel, by decide +kernel⟩
abbrev n_read_program : List Str := ["text", "found"]
abbrev p_read_program : List Str := ["text"]
theorem sc_read_program : FnScope n_read_program p_read_program (defScope s_read_program) := ⟨rfl, rfl, rfl, by decide +kernel, rfl, by decide +kernel, by decide +kernel⟩
abbrev n_law_hand : List Str := ["_law_script", "_law_cells", "_law_cell"]
abbrev p_law_hand : List Str := ["_law_script"]
theorem sc_law_hand : FnScope n_law_hand p_law_hand (defScope s_law_hand) := ⟨rfl, rfl, rfl, by decide +kernel, rfl, by decide +kernel, by decide +kernel⟩
abbrev n_law_draw : List Str := ["_law_hand_here", "_law_many", "_law_cell", "_law_digit", "_law_number"]
abbrev p_law_draw : List Str := ["_law_hand_here", "_law_many"]
theorem sc_law_draw : FnScope n_law_draw p_law_draw (defScope s_law_draw) := ⟨rfl, rfl, rfl, by decide +kernel, rfl, by decide +kernel, by decide +kernel⟩
abbrev n_law_some : List Str := ["_law_hand_here", "_law_things"]
abbrev p_law_some : List Str := ["_law_hand_here", "_law_things"]
theorem sc_law_some : FnScope n_law_some p_law_some (defScope s_law_some) := ⟨rfl, rfl, rfl, by decide +kernel, rfl, by decide +kernel, by decide +kernel⟩
abbrev n_law_shuffled : List Str := ["_law_hand_here", "_law_things", "_law_pool", "_law_found"]
abbrev p_law_shuffled : List Str := ["_law_hand_here", "_law_things"]
theorem sc_law_shuffled : FnScope n_law_shuffled p_law_shuffled (defScope s_law_shuffled) := ⟨rfl, rfl, rfl, by decide +kernel, rfl, by decide +kernel, by decide +kernel⟩
abbrev n_law_is : List Str := ["_law_told", "_law_due", "_law_k", "_law_key"]
abbrev p_law_is : List Str := ["_law_told", "_law_due"]
theorem sc_law_is : FnScope n_law_is p_law_is (defScope s_law_is) := ⟨rfl, rfl, rfl, by decide +kernel, rfl, by decide +kernel, by decide +kernel⟩
abbrev n_law_kind : List Str := ["_law_hand_here", "_law_deep"]
abbrev p_law_kind : List Str := ["_law_hand_here", "_law_deep"]
theorem sc_law_kind : FnScope n_law_kind p_law_kind (defScope s_law_kind) := ⟨rfl, rfl, rfl, by decide +kernel, rfl, by decide +kernel, by decide +kernel⟩
abbrev n_law_ends : List Str := ["_law_kind_here", "_law_found"]
abbrev p_law_ends : List Str := ["_law_kind_here"]
theorem sc_law_ends : FnScope n_law_ends p_law_ends (defScope s_law_ends) := ⟨rfl, rfl, rfl, by decide +kernel, rfl, by decide +kernel, by decide +kernel⟩
abbrev n_law_known : List Str := ["_law_hand_here", "_law_many", "_law_names", "_law_name"]
abbrev p_law_known : List Str := ["_law_hand_here", "_law_many"]
theorem sc_law_known : FnScope n_law_known p_law_known (defScope s_law_known) := ⟨rfl, rfl, rfl, by decide +kernel, rfl, by decide +kernel, by decide +kernel⟩
abbrev n_law_some_program : List Str := ["_law_hand_here", "_law_known_here", "_law_deep", "_law_turn", "_law_found", "_law_name", "_law_kind_here"]
abbrev p_law_some_program : List Str := ["_law_hand_here", "_law_known_here", "_law_deep"]
theorem sc_law_some_program : FnScope n_law_some_program p_law_some_program (defScope s_law_some_program) := ⟨rfl, rfl, rfl, by decide +kernel, rfl, by decide +kernel, by decide +kernel⟩
abbrev n_law_spans : List Str := ["_law_words", "_law_found", "_law_waiting", "_law_place", "_law_last"]
abbrev p_law_spans : List Str := ["_law_words"]
theorem sc_law_spans : FnScope n_law_spans p_law_spans (defScope s_law_spans) := ⟨rfl, rfl, rfl, by decide +kernel, rfl, by decide +kernel, by decide +kernel⟩
abbrev n_law_heads : List Str := ["_law_inner", "_law_end", "_law_deep", "_law_found", "_law_name"]
abbrev p_law_heads : List Str := ["_law_inner", "_law_end", "_law_deep"]
theorem sc_law_heads : FnScope n_law_heads p_law_heads (defScope s_law_heads) := ⟨rfl, rfl, rfl, by decide +kernel, rfl, by decide +kernel, by decide +kernel⟩
abbrev n_law_fit : List Str := ["_law_hand_here", "_law_known_here", "_law_kind_here", "_law_deep", "_law_lefts", "_law_end", "_law_inner", "_law_taken", "_law_left", "_law_name", "_law_some_here", "_law_found", "_law_wider", "_law_body"]
abbrev p_law_fit : List Str := ["_law_hand_here", "_law_known_here", "_law_kind_here", "_law_deep"]
theorem sc_law_fit : FnScope n_law_fit p_law_fit (defScope s_law_fit) := ⟨rfl, rfl, rfl, by decide +kernel, rfl, by decide +kernel, by decide +kernel⟩
abbrev n_law_loose : List Str := ["_law_hand_here", "_law_names", "_law_deep", "_law_kind_here"]
abbrev p_law_loose : List Str := ["_law_hand_here", "_law_names", "_law_deep"]
theorem sc_law_loose : FnScope n_law_loose p_law_loose (defScope s_law_loose) := ⟨rfl, rfl, rfl, by decide +kernel, rfl, by decide +kernel, by decide +kernel⟩
abbrev n_law_kind_text : List Str := ["_law_kind_here", "_law_left"]
abbrev p_law_kind_text : List Str := ["_law_kind_here"]
theorem sc_law_kind_text : FnScope n_law_kind_text p_law_kind_text (defScope s_law_kind_text) := ⟨rfl, rfl, rfl, by decide +kernel, rfl, by decide +kernel, by decide +kernel⟩
abbrev n_law_text : List Str := ["_law_words", "_law_spans_here", "_law_texts", "_law_place", "_law_word"]
abbrev p_law_text : List Str := ["_law_words"]
theorem sc_law_text : FnScope n_law_text p_law_text (defScope s_law_text) := ⟨rfl, rfl, rfl, by decide +kernel, rfl, by decide +kernel, by decide +kernel⟩
abbrev n_law_any_kind : List Str := ["_law_hand_here", "_law_deep"]
abbrev p_law_any_kind : List Str := ["_law_hand_here", "_law_deep"]
theorem sc_law_any_kind : FnScope n_law_any_kind p_law_any_kind (defScope s_law_any_kind) := ⟨rfl, rfl, rfl, by decide +kernel, rfl, by decide +kernel, by decide +kernel⟩
abbrev n_law_long_kind : List Str := ["_law_hand_here", "_law_found", "_law_turn", "_law_left"]
abbrev p_law_long_kind : List Str := ["_law_hand_here"]
theorem sc_law_long_kind : FnScope n_law_long_kind p_law_long_kind (defScope s_law_long_kind) := ⟨rfl, rfl, rfl, by decide +kernel, rfl, by decide +kernel, by decide +kernel⟩
abbrev n_law : List Str := ["_law_script", "_law_hand_here", "_law_long", "_law_words", "_law_turn", "_law_one", "_law_other", "_law_known_here", "_law_later", "_law_some_here", "_law_text_here"]
abbrev p_law : List Str := ["_law_script"]
theorem sc_law : FnScope n_law p_law (defScope s_law) := ⟨rfl, rfl, rfl, by decide +kernel, rfl, by decide +kernel, by decide +kernel⟩

def d_is_integer : He.DefD := ⟨("is_integer", none), "is_integer", "is_integer", defArgs s_is_integer, defBody s_is_integer, defScope s_is_integer, [], []⟩
def d_is_within : He.DefD := ⟨("is_within", none), "is_within", "is_within", defArgs s_is_within, defBody s_is_within, defScope s_is_within, [], []⟩
def d_is_pair : He.DefD := ⟨("is_pair", none), "is_pair", "is_pair", defArgs s_is_pair, defBody s_is_pair, defScope s_is_pair, [], []⟩
def d_is_name : He.DefD := ⟨("is_name", none), "is_name", "is_name", defArgs s_is_name, defBody s_is_name, defScope s_is_name, [], []⟩
def d_is_kind_there : He.DefD := ⟨("is_kind_there", none), "is_kind_there", "is_kind_there", defArgs s_is_kind_there, defBody s_is_kind_there, defScope s_is_kind_there, [], []⟩
def d_is_kind_of_any_size : He.DefD := ⟨("is_kind_of_any_size", none), "is_kind_of_any_size", "is_kind_of_any_size", defArgs s_is_kind_of_any_size, defBody s_is_kind_of_any_size, defScope s_is_kind_of_any_size, [], []⟩
def d_check_kind : He.DefD := ⟨("check_kind", none), "check_kind", "check_kind", defArgs s_check_kind, defBody s_check_kind, defScope s_check_kind, [], []⟩
def d_is_take : He.DefD := ⟨("is_take", none), "is_take", "is_take", defArgs s_is_take, defBody s_is_take, defScope s_is_take, [], []⟩
def d_is_word : He.DefD := ⟨("is_word", none), "is_word", "is_word", defArgs s_is_word, defBody s_is_word, defScope s_is_word, [], []⟩
def d_is_whole : He.DefD := ⟨("is_whole", none), "is_whole", "is_whole", defArgs s_is_whole, defBody s_is_whole, defScope s_is_whole, [], []⟩
def d_is_program_there : He.DefD := ⟨("is_program_there", none), "is_program_there", "is_program_there", defArgs s_is_program_there, defBody s_is_program_there, defScope s_is_program_there, [], []⟩
def d_check_program : He.DefD := ⟨("check_program", none), "check_program", "check_program", defArgs s_check_program, defBody s_check_program, defScope s_check_program, [], []⟩
def d_kind_text_of : He.DefD := ⟨("kind_text_of", none), "kind_text_of", "kind_text_of", defArgs s_kind_text_of, defBody s_kind_text_of, defScope s_kind_text_of, [], []⟩
def d_program_text_of : He.DefD := ⟨("program_text_of", none), "program_text_of", "program_text_of", defArgs s_program_text_of, defBody s_program_text_of, defScope s_program_text_of, [], []⟩
def d_kind_text : He.DefD := ⟨("kind_text", none), "kind_text", "kind_text", defArgs s_kind_text, defBody s_kind_text, defScope s_kind_text, [], []⟩
def d_program_text : He.DefD := ⟨("program_text", none), "program_text", "program_text", defArgs s_program_text, defBody s_program_text, defScope s_program_text, [], []⟩
def d_Reader__init : He.DefD := ⟨("Reader", some "__init__"), "__init__", "Reader.__init__", defArgs s_Reader__init, defBody s_Reader__init, defScope s_Reader__init, [], []⟩
def d_Reader_sign : He.DefD := ⟨("Reader", some "sign"), "sign", "Reader.sign", defArgs s_Reader_sign, defBody s_Reader_sign, defScope s_Reader_sign, [], []⟩
def d_Reader_is_small : He.DefD := ⟨("Reader", some "is_small"), "is_small", "Reader.is_small", defArgs s_Reader_is_small, defBody s_Reader_is_small, defScope s_Reader_is_small, [], []⟩
def d_Reader_need : He.DefD := ⟨("Reader", some "need"), "need", "Reader.need", defArgs s_Reader_need, defBody s_Reader_need, defScope s_Reader_need, [], []⟩
def d_Reader_name : He.DefD := ⟨("Reader", some "name"), "name", "Reader.name", defArgs s_Reader_name, defBody s_Reader_name, defScope s_Reader_name, [], []⟩
def d_Reader_letter : He.DefD := ⟨("Reader", some "letter"), "letter", "Reader.letter", defArgs s_Reader_letter, defBody s_Reader_letter, defScope s_Reader_letter, [], []⟩
def d_Reader_finish : He.DefD := ⟨("Reader", some "finish"), "finish", "Reader.finish", defArgs s_Reader_finish, defBody s_Reader_finish, defScope s_Reader_finish, [], []⟩
def d_joined_kind : He.DefD := ⟨("joined_kind", none), "joined_kind", "joined_kind", defArgs s_joined_kind, defBody s_joined_kind, defScope s_joined_kind, [], []⟩
def d_kind_in : He.DefD := ⟨("kind_in", none), "kind_in", "kind_in", defArgs s_kind_in, defBody s_kind_in, defScope s_kind_in, [], []⟩
def d_whole_kind : He.DefD := ⟨("whole_kind", none), "whole_kind", "whole_kind", defArgs s_whole_kind, defBody s_whole_kind, defScope s_whole_kind, [], []⟩
def d_read_kind : He.DefD := ⟨("read_kind", none), "read_kind", "read_kind", defArgs s_read_kind, defBody s_read_kind, defScope s_read_kind, [], []⟩
def d_whole_program : He.DefD := ⟨("whole_program", none), "whole_program", "whole_program", defArgs s_whole_program, defBody s_whole_program, defScope s_whole_program, [], []⟩
def d_read_program : He.DefD := ⟨("read_program", none), "read_program", "read_program", defArgs s_read_program, defBody s_read_program, defScope s_read_program, [], []⟩
def d_law_hand : He.DefD := ⟨("_law_hand", none), "_law_hand", "_law_hand", defArgs s_law_hand, defBody s_law_hand, defScope s_law_hand, [], []⟩
def d_law_draw : He.DefD := ⟨("_law_draw", none), "_law_draw", "_law_draw", defArgs s_law_draw, defBody s_law_draw, defScope s_law_draw, [], []⟩
def d_law_some : He.DefD := ⟨("_law_some", none), "_law_some", "_law_some", defArgs s_law_some, defBody s_law_some, defScope s_law_some, [], []⟩
def d_law_shuffled : He.DefD := ⟨("_law_shuffled", none), "_law_shuffled", "_law_shuffled", defArgs s_law_shuffled, defBody s_law_shuffled, defScope s_law_shuffled, [], []⟩
def d_law_is : He.DefD := ⟨("_law_is", none), "_law_is", "_law_is", defArgs s_law_is, defBody s_law_is, defScope s_law_is, [], []⟩
def d_law_kind : He.DefD := ⟨("_law_kind", none), "_law_kind", "_law_kind", defArgs s_law_kind, defBody s_law_kind, defScope s_law_kind, [], []⟩
def d_law_ends : He.DefD := ⟨("_law_ends", none), "_law_ends", "_law_ends", defArgs s_law_ends, defBody s_law_ends, defScope s_law_ends, [], []⟩
def d_law_known : He.DefD := ⟨("_law_known", none), "_law_known", "_law_known", defArgs s_law_known, defBody s_law_known, defScope s_law_known, [], []⟩
def d_law_some_program : He.DefD := ⟨("_law_some_program", none), "_law_some_program", "_law_some_program", defArgs s_law_some_program, defBody s_law_some_program, defScope s_law_some_program, [], []⟩
def d_law_spans : He.DefD := ⟨("_law_spans", none), "_law_spans", "_law_spans", defArgs s_law_spans, defBody s_law_spans, defScope s_law_spans, [], []⟩
def d_law_heads : He.DefD := ⟨("_law_heads", none), "_law_heads", "_law_heads", defArgs s_law_heads, defBody s_law_heads, defScope s_law_heads, [], []⟩
def d_law_fit : He.DefD := ⟨("_law_fit", none), "_law_fit", "_law_fit", defArgs s_law_fit, defBody s_law_fit, defScope s_law_fit, [], []⟩
def d_law_loose : He.DefD := ⟨("_law_loose", none), "_law_loose", "_law_loose", defArgs s_law_loose, defBody s_law_loose, defScope s_law_loose, [], []⟩
def d_law_kind_text : He.DefD := ⟨("_law_kind_text", none), "_law_kind_text", "_law_kind_text", defArgs s_law_kind_text, defBody s_law_kind_text, defScope s_law_kind_text, [], []⟩
def d_law_text : He.DefD := ⟨("_law_text", none), "_law_text", "_law_text", defArgs s_law_text, defBody s_law_text, defScope s_law_text, [], []⟩
def d_law_any_kind : He.DefD := ⟨("_law_any_kind", none), "_law_any_kind", "_law_any_kind", defArgs s_law_any_kind, defBody s_law_any_kind, defScope s_law_any_kind, [], []⟩
def d_law_long_kind : He.DefD := ⟨("_law_long_kind", none), "_law_long_kind", "_law_long_kind", defArgs s_law_long_kind, defBody s_law_long_kind, defScope s_law_long_kind, [], []⟩
def d_law : He.DefD := ⟨("law", none), "law", "law", defArgs s_law, defBody s_law, defScope s_law, [], []⟩
def fn : List He.DefD := [d_is_integer, d_is_within, d_is_pair, d_is_name, d_is_kind_there, d_is_kind_of_any_size, d_check_kind, d_is_take, d_is_word, d_is_whole, d_is_program_there, d_check_program, d_kind_text_of, d_program_text_of, d_kind_text, d_program_text, d_Reader__init, d_Reader_sign, d_Reader_is_small, d_Reader_need, d_Reader_name, d_Reader_letter, d_Reader_finish, d_joined_kind, d_kind_in, d_whole_kind, d_read_kind, d_whole_program, d_read_program, d_law_hand, d_law_draw, d_law_some, d_law_shuffled, d_law_is, d_law_kind, d_law_ends, d_law_known, d_law_some_program, d_law_spans, d_law_heads, d_law_fit, d_law_loose, d_law_kind_text, d_law_text, d_law_any_kind, d_law_long_kind, d_law]
def fa : List He.Fa := [.glo "is_integer", .glo "is_within", .glo "is_pair", .glo "is_name", .glo "is_kind_there", .glo "is_kind_of_any_size", .glo "check_kind", .glo "is_take", .glo "is_word", .glo "is_whole", .glo "is_program_there", .glo "check_program", .glo "kind_text_of", .glo "program_text_of", .glo "kind_text", .glo "program_text", .glo "joined_kind", .glo "kind_in", .glo "whole_kind", .glo "read_kind", .glo "whole_program", .glo "read_program", .glo "_law_hand", .glo "_law_draw", .glo "_law_some", .glo "_law_shuffled", .glo "_law_is", .glo "_law_kind", .glo "_law_ends", .glo "_law_known", .glo "_law_some_program", .glo "_law_spans", .glo "_law_heads", .glo "_law_fit", .glo "_law_loose", .glo "_law_kind_text", .glo "_law_text", .glo "_law_any_kind", .glo "_law_long_kind", .glo "law", .glo "CountsError", .glo "BadText", .glo "NoKind", .glo "NoProgram", .glo "Reader", .free "ValueError", .free "isinstance", .free "tuple", .free "all", .free "list", .free "dict", .free "range", .free "sorted", .free "int", .free "str", .free "len", .free "abs", .free "bool", .free "super", .str "SMALL" "abcdefghijklmnopqrstuvwxyz", .int "MOST_SIGNS" 8, .int "MOST_LETTERS" 60, .int "MOST_DEEP" 30, .int "LAST_LETTER" 25, .str "USE" "@", .int "MOST_WORDS" 400, .exc "NoProgram", .exc "NoKind", .cls "Reader", .mkr "Reader", .noat "Reader" "kept_text", .noat "Reader" "kept_at", .meth "Reader" "sign", .meth "Reader" "is_small", .meth "Reader" "need", .meth "Reader" "name", .meth "Reader" "letter", .meth "Reader" "finish"]

abbrev R : PySem.W.OpenRow := PySem.W.OpenLaw.row PySem.Challenge.rw_usecounts_k10_whole_texts_there_and_back
def posOf : Stmt → Stmt → List Pos
  | .Expr (.Call (.Attribute (.Call (.Name _ q0) _ _ q1) _ q2) [.Name _ q3] _ q4) q5, .Assign [.Attribute (.Name _ q6) _ q7] (.Name _ q8) q9 => [q0, q1, q2, q3, q4, q5, q6, q7, q8, q9]
  | _, _ => []
def nthS : List Stmt → Nat → Stmt
  | s :: _, 0 => s
  | _ :: r, n + 1 => nthS r n
  | [], _ => .Pass ⟨0, 0, 0, 0⟩

def sup_BadText : Us.SupT := ⟨"BadText", "__init__", "BadText.__init__", defArgs (inClass (topS 2) 0), "index", "index", posOf (nthS (defBody (inClass (topS 2) 0)) 0) (nthS (defBody (inClass (topS 2) 0)) 1), defScope (inClass (topS 2) 0)⟩
theorem supT_BadText : sup_BadText.Ok R.prog := ⟨rfl, fun _ _ _ _ _ _ _ _ _ => rfl, ⟨_, rfl, rfl⟩, by decide +kernel, by decide +kernel, by decide +kernel, by decide +kernel, by decide +kernel, by decide +kernel, by decide +kernel, rfl, rfl, rfl, by decide +kernel⟩
def ss : List Us.SupT := [sup_BadText]
def ex (K : PySem.W.Frag) : Bool := (Us.supB sup_BadText R.prog.main.file K && ([Us.ownCB K (He.ga K "Reader")] : List Bool).all id)
abbrev hk : PySem.W.Hook := Us.hookY 6 fa fn ss ex
def ob (s : PySem.W.SharedT) : Us.AlY := Us.obsYG 6 fa fn ss ex (HandSHeadRun.getT s)
theorem ob_eq (s : PySem.W.SharedT) : ob s = hk.obs s.abs := Us.obsYG_eq (HandSHeadRun.getT_eq s)
def loose : List Str := (["CountsError", "BadText", "NoKind", "NoProgram", "SMALL", "MOST_SIGNS", "is_integer", "is_within", "is_pair", "is_name", "MOST_LETTERS", "MOST_DEEP", "LAST_LETTER", "is_kind_there", "is_kind_of_any_size", "check_kind", "USE", "MOST_WORDS", "is_take", "is_word", "is_whole", "is_program_there", "check_program", "kind_text_of", "program_text_of", "kind_text", "program_text", "Reader", "joined_kind", "kind_in"] : List Str) ++ (["whole_kind", "read_kind", "whole_program", "read_program", "_law_hand", "_law_draw", "_law_some", "_law_shuffled", "_law_is", "_law_kind", "_law_ends", "_law_known", "_law_some_program", "_law_spans", "_law_heads", "_law_fit", "_law_loose", "_law_kind_text", "_law_text", "_law_any_kind", "_law_long_kind"] : List Str)
open PySem PySem.W PySem.Calls PyProof.Rows HandSHeadRun in
noncomputable abbrev endS (w : World) (os : OsState) : Option SharedT := endF (stepQ (denQ tabQ) R.prog w) 4000 R.prog w os
open PySem PySem.W PySem.Calls PyProof.Rows HandSHeadRun in
theorem runA (w : World) (os : OsState) : (endS w os).map (fun s => looksF R.prog (boot_heap w.params) s.abs) = some true := by
  kernel_rfl
open PySem PySem.W PySem.Calls PyProof.Rows HandSHeadRun in
theorem runB (w : World) (os : OsState) : (endS w os).map (fun s => seenQ (view R.prog [58]) loose (importedModules R.prog.main.body) (fun s => xlAt (view R.prog [58]) [] s && recOk R.toRowW.records s) s.abs) = some (openGood (view R.prog [58]) loose) := by
  kernel_rfl
open PySem PySem.W PySem.Calls PyProof.Rows HandSHeadRun in
theorem runC (w : World) (os : OsState) : (endS w os).map ob = some (hk.val w) := by
  kernel_rfl
theorem mp2 {A B C : Type} {x : Option A} {f : A → B} {g : A → C} {a : B} {b : C} (h1 : x.map f = some a) (h2 : x.map g = some b) : x.map (fun s => (f s, g s)) = some (a, b) := by
  cases x with
  | none => cases h1
  | some s =>
    have e1 := Option.some.inj h1
    have e2 := Option.some.inj h2
    rw [← e1, ← e2]
    rfl
theorem run (w : World) : HandSHeadRun.RunEq R (PySem.W.view R.prog [58]) hk ob 4000 loose w := fun os => mp2 (runA w os) (mp2 (runB w os) (runC w os))
structure Txt (K : PySem.W.Frag) (mg : Str → Option Value) : Prop where
  d_is_integer : Us.DefAt K mg "is_integer" s_is_integer
  d_is_within : Us.DefAt K mg "is_within" s_is_within
  d_is_pair : Us.DefAt K mg "is_pair" s_is_pair
  d_is_name : Us.DefAt K mg "is_name" s_is_name
  d_is_kind_there : Us.DefAt K mg "is_kind_there" s_is_kind_there
  d_is_kind_of_any_size : Us.DefAt K mg "is_kind_of_any_size" s_is_kind_of_any_size
  d_check_kind : Us.DefAt K mg "check_kind" s_check_kind
  d_is_take : Us.DefAt K mg "is_take" s_is_take
  d_is_word : Us.DefAt K mg "is_word" s_is_word
  d_is_whole : Us.DefAt K mg "is_whole" s_is_whole
  d_is_program_there : Us.DefAt K mg "is_program_there" s_is_program_there
  d_check_program : Us.DefAt K mg "check_program" s_check_program
  d_kind_text_of : Us.DefAt K mg "kind_text_of" s_kind_text_of
  d_program_text_of : Us.DefAt K mg "program_text_of" s_program_text_of
  d_kind_text : Us.DefAt K mg "kind_text" s_kind_text
  d_program_text : Us.DefAt K mg "program_text" s_program_text
  d_Reader__init : ∃ fd, FunD K "__init__" "Reader.__init__" (defArgs s_Reader__init) (defBody s_Reader__init) (defScope s_Reader__init) [] [] (He.ma K (He.ga K "Reader") "__init__") fd
  d_Reader_sign : ∃ fd, FunD K "sign" "Reader.sign" (defArgs s_Reader_sign) (defBody s_Reader_sign) (defScope s_Reader_sign) [] [] (He.ma K (He.ga K "Reader") "sign") fd
  d_Reader_is_small : ∃ fd, FunD K "is_small" "Reader.is_small" (defArgs s_Reader_is_small) (defBody s_Reader_is_small) (defScope s_Reader_is_small) [] [] (He.ma K (He.ga K "Reader") "is_small") fd
  d_Reader_need : ∃ fd, FunD K "need" "Reader.need" (defArgs s_Reader_need) (defBody s_Reader_need) (defScope s_Reader_need) [] [] (He.ma K (He.ga K "Reader") "need") fd
  d_Reader_name : ∃ fd, FunD K "name" "Reader.name" (defArgs s_Reader_name) (defBody s_Reader_name) (defScope s_Reader_name) [] [] (He.ma K (He.ga K "Reader") "name") fd
  d_Reader_letter : ∃ fd, FunD K "letter" "Reader.letter" (defArgs s_Reader_letter) (defBody s_Reader_letter) (defScope s_Reader_letter) [] [] (He.ma K (He.ga K "Reader") "letter") fd
  d_Reader_finish : ∃ fd, FunD K "finish" "Reader.finish" (defArgs s_Reader_finish) (defBody s_Reader_finish) (defScope s_Reader_finish) [] [] (He.ma K (He.ga K "Reader") "finish") fd
  d_joined_kind : Us.DefAt K mg "joined_kind" s_joined_kind
  d_kind_in : Us.DefAt K mg "kind_in" s_kind_in
  d_whole_kind : Us.DefAt K mg "whole_kind" s_whole_kind
  d_read_kind : Us.DefAt K mg "read_kind" s_read_kind
  d_whole_program : Us.DefAt K mg "whole_program" s_whole_program
  d_read_program : Us.DefAt K mg "read_program" s_read_program
  d_law_hand : Us.DefAt K mg "_law_hand" s_law_hand
  d_law_draw : Us.DefAt K mg "_law_draw" s_law_draw
  d_law_some : Us.DefAt K mg "_law_some" s_law_some
  d_law_shuffled : Us.DefAt K mg "_law_shuffled" s_law_shuffled
  d_law_is : Us.DefAt K mg "_law_is" s_law_is
  d_law_kind : Us.DefAt K mg "_law_kind" s_law_kind
  d_law_ends : Us.DefAt K mg "_law_ends" s_law_ends
  d_law_known : Us.DefAt K mg "_law_known" s_law_known
  d_law_some_program : Us.DefAt K mg "_law_some_program" s_law_some_program
  d_law_spans : Us.DefAt K mg "_law_spans" s_law_spans
  d_law_heads : Us.DefAt K mg "_law_heads" s_law_heads
  d_law_fit : Us.DefAt K mg "_law_fit" s_law_fit
  d_law_loose : Us.DefAt K mg "_law_loose" s_law_loose
  d_law_kind_text : Us.DefAt K mg "_law_kind_text" s_law_kind_text
  d_law_text : Us.DefAt K mg "_law_text" s_law_text
  d_law_any_kind : Us.DefAt K mg "_law_any_kind" s_law_any_kind
  d_law_long_kind : Us.DefAt K mg "_law_long_kind" s_law_long_kind
  d_law : Us.DefAt K mg "law" s_law
  g_CountsError : mg "CountsError" = some (.ref (He.ga K "CountsError"))
  g_BadText : mg "BadText" = some (.ref (He.ga K "BadText"))
  g_NoKind : mg "NoKind" = some (.ref (He.ga K "NoKind"))
  g_NoProgram : mg "NoProgram" = some (.ref (He.ga K "NoProgram"))
  g_Reader : mg "Reader" = some (.ref (He.ga K "Reader"))
  f_ValueError : mg "ValueError" = none
  f_isinstance : mg "isinstance" = none
  f_tuple : mg "tuple" = none
  f_all : mg "all" = none
  f_list : mg "list" = none
  f_dict : mg "dict" = none
  f_range : mg "range" = none
  f_sorted : mg "sorted" = none
  f_int : mg "int" = none
  f_str : mg "str" = none
  f_len : mg "len" = none
  f_abs : mg "abs" = none
  f_bool : mg "bool" = none
  f_super : mg "super" = none
  c_SMALL : Us.GlobV mg "SMALL" (.str "abcdefghijklmnopqrstuvwxyz")
  c_MOST_SIGNS : Us.GlobV mg "MOST_SIGNS" (.int 8)
  c_MOST_LETTERS : Us.GlobV mg "MOST_LETTERS" (.int 60)
  c_MOST_DEEP : Us.GlobV mg "MOST_DEEP" (.int 30)
  c_LAST_LETTER : Us.GlobV mg "LAST_LETTER" (.int 25)
  c_USE : Us.GlobV mg "USE" (.str "@")
  c_MOST_WORDS : Us.GlobV mg "MOST_WORDS" (.int 400)
  x_NoProgram : Us.ExcOk K mg "NoProgram" (He.ga K "NoProgram")
  x_NoKind : Us.ExcOk K mg "NoKind" (He.ga K "NoKind")
  su_BadText : Us.SupOk R.prog K sup_BadText
  x_Reader : Cls K (He.ga K "Reader")
  mk_Reader : Mk K (He.ga K "Reader") (He.ma K (He.ga K "Reader") "__init__")
  na_kept_text : NoAttr K (He.ga K "Reader") "kept_text"
  na_kept_at : NoAttr K (He.ga K "Reader") "kept_at"
  ow_Reader : Us.OwnC K (He.ga K "Reader")
  me_sign : Meth K (He.ga K "Reader") "sign" (He.ma K (He.ga K "Reader") "sign")
  me_is_small : Meth K (He.ga K "Reader") "is_small" (He.ma K (He.ga K "Reader") "is_small")
  me_need : Meth K (He.ga K "Reader") "need" (He.ma K (He.ga K "Reader") "need")
  me_name : Meth K (He.ga K "Reader") "name" (He.ma K (He.ga K "Reader") "name")
  me_letter : Meth K (He.ga K "Reader") "letter" (He.ma K (He.ga K "Reader") "letter")
  me_finish : Meth K (He.ga K "Reader") "finish" (He.ma K (He.ga K "Reader") "finish")
theorem txt_mk {K : PySem.W.Frag} {h : Heap} {mg : Str → Option Value} (X : K.In h) (G : h.Ns mainGlobals mg) (c : He.SaysD fa fn K) (ce0 : ex K = true) (cs : Us.SaysS ss K) : Txt K mg := by
  obtain ⟨SB0, ce⟩ := He.ba ce0
  exact ⟨let ⟨fd, F⟩ := c.def_ 0 (d := d_is_integer) rfl; ⟨_, fd, F, He.glo_ok X G (c.fact 0 (f := .glo "is_integer") rfl)⟩,
   let ⟨fd, F⟩ := c.def_ 1 (d := d_is_within) rfl; ⟨_, fd, F, He.glo_ok X G (c.fact 1 (f := .glo "is_within") rfl)⟩,
   let ⟨fd, F⟩ := c.def_ 2 (d := d_is_pair) rfl; ⟨_, fd, F, He.glo_ok X G (c.fact 2 (f := .glo "is_pair") rfl)⟩,
   let ⟨fd, F⟩ := c.def_ 3 (d := d_is_name) rfl; ⟨_, fd, F, He.glo_ok X G (c.fact 3 (f := .glo "is_name") rfl)⟩,
   let ⟨fd, F⟩ := c.def_ 4 (d := d_is_kind_there) rfl; ⟨_, fd, F, He.glo_ok X G (c.fact 4 (f := .glo "is_kind_there") rfl)⟩,
   let ⟨fd, F⟩ := c.def_ 5 (d := d_is_kind_of_any_size) rfl; ⟨_, fd, F, He.glo_ok X G (c.fact 5 (f := .glo "is_kind_of_any_size") rfl)⟩,
   let ⟨fd, F⟩ := c.def_ 6 (d := d_check_kind) rfl; ⟨_, fd, F, He.glo_ok X G (c.fact 6 (f := .glo "check_kind") rfl)⟩,
   let ⟨fd, F⟩ := c.def_ 7 (d := d_is_take) rfl; ⟨_, fd, F, He.glo_ok X G (c.fact 7 (f := .glo "is_take") rfl)⟩,
   let ⟨fd, F⟩ := c.def_ 8 (d := d_is_word) rfl; ⟨_, fd, F, He.glo_ok X G (c.fact 8 (f := .glo "is_word") rfl)⟩,
   let ⟨fd, F⟩ := c.def_ 9 (d := d_is_whole) rfl; ⟨_, fd, F, He.glo_ok X G (c.fact 9 (f := .glo "is_whole") rfl)⟩,
   let ⟨fd, F⟩ := c.def_ 10 (d := d_is_program_there) rfl; ⟨_, fd, F, He.glo_ok X G (c.fact 10 (f := .glo "is_program_there") rfl)⟩,
   let ⟨fd, F⟩ := c.def_ 11 (d := d_check_program) rfl; ⟨_, fd, F, He.glo_ok X G (c.fact 11 (f := .glo "check_program") rfl)⟩,
   let ⟨fd, F⟩ := c.def_ 12 (d := d_kind_text_of) rfl; ⟨_, fd, F, He.glo_ok X G (c.fact 12 (f := .glo "kind_text_of") rfl)⟩,
   let ⟨fd, F⟩ := c.def_ 13 (d := d_program_text_of) rfl; ⟨_, fd, F, He.glo_ok X G (c.fact 13 (f := .glo "program_text_of") rfl)⟩,
   let ⟨fd, F⟩ := c.def_ 14 (d := d_kind_text) rfl; ⟨_, fd, F, He.glo_ok X G (c.fact 14 (f := .glo "kind_text") rfl)⟩,
   let ⟨fd, F⟩ := c.def_ 15 (d := d_program_text) rfl; ⟨_, fd, F, He.glo_ok X G (c.fact 15 (f := .glo "program_text") rfl)⟩,
   c.def_ 16 (d := d_Reader__init) rfl,
   c.def_ 17 (d := d_Reader_sign) rfl,
   c.def_ 18 (d := d_Reader_is_small) rfl,
   c.def_ 19 (d := d_Reader_need) rfl,
   c.def_ 20 (d := d_Reader_name) rfl,
   c.def_ 21 (d := d_Reader_letter) rfl,
   c.def_ 22 (d := d_Reader_finish) rfl,
   let ⟨fd, F⟩ := c.def_ 23 (d := d_joined_kind) rfl; ⟨_, fd, F, He.glo_ok X G (c.fact 16 (f := .glo "joined_kind") rfl)⟩,
   let ⟨fd, F⟩ := c.def_ 24 (d := d_kind_in) rfl; ⟨_, fd, F, He.glo_ok X G (c.fact 17 (f := .glo "kind_in") rfl)⟩,
   let ⟨fd, F⟩ := c.def_ 25 (d := d_whole_kind) rfl; ⟨_, fd, F, He.glo_ok X G (c.fact 18 (f := .glo "whole_kind") rfl)⟩,
   let ⟨fd, F⟩ := c.def_ 26 (d := d_read_kind) rfl; ⟨_, fd, F, He.glo_ok X G (c.fact 19 (f := .glo "read_kind") rfl)⟩,
   let ⟨fd, F⟩ := c.def_ 27 (d := d_whole_program) rfl; ⟨_, fd, F, He.glo_ok X G (c.fact 20 (f := .glo "whole_program") rfl)⟩,
   let ⟨fd, F⟩ := c.def_ 28 (d := d_read_program) rfl; ⟨_, fd, F, He.glo_ok X G (c.fact 21 (f := .glo "read_program") rfl)⟩,
   let ⟨fd, F⟩ := c.def_ 29 (d := d_law_hand) rfl; ⟨_, fd, F, He.glo_ok X G (c.fact 22 (f := .glo "_law_hand") rfl)⟩,
   let ⟨fd, F⟩ := c.def_ 30 (d := d_law_draw) rfl; ⟨_, fd, F, He.glo_ok X G (c.fact 23 (f := .glo "_law_draw") rfl)⟩,
   let ⟨fd, F⟩ := c.def_ 31 (d := d_law_some) rfl; ⟨_, fd, F, He.glo_ok X G (c.fact 24 (f := .glo "_law_some") rfl)⟩,
   let ⟨fd, F⟩ := c.def_ 32 (d := d_law_shuffled) rfl; ⟨_, fd, F, He.glo_ok X G (c.fact 25 (f := .glo "_law_shuffled") rfl)⟩,
   let ⟨fd, F⟩ := c.def_ 33 (d := d_law_is) rfl; ⟨_, fd, F, He.glo_ok X G (c.fact 26 (f := .glo "_law_is") rfl)⟩,
   let ⟨fd, F⟩ := c.def_ 34 (d := d_law_kind) rfl; ⟨_, fd, F, He.glo_ok X G (c.fact 27 (f := .glo "_law_kind") rfl)⟩,
   let ⟨fd, F⟩ := c.def_ 35 (d := d_law_ends) rfl; ⟨_, fd, F, He.glo_ok X G (c.fact 28 (f := .glo "_law_ends") rfl)⟩,
   let ⟨fd, F⟩ := c.def_ 36 (d := d_law_known) rfl; ⟨_, fd, F, He.glo_ok X G (c.fact 29 (f := .glo "_law_known") rfl)⟩,
   let ⟨fd, F⟩ := c.def_ 37 (d := d_law_some_program) rfl; ⟨_, fd, F, He.glo_ok X G (c.fact 30 (f := .glo "_law_some_program") rfl)⟩,
   let ⟨fd, F⟩ := c.def_ 38 (d := d_law_spans) rfl; ⟨_, fd, F, He.glo_ok X G (c.fact 31 (f := .glo "_law_spans") rfl)⟩,
   let ⟨fd, F⟩ := c.def_ 39 (d := d_law_heads) rfl; ⟨_, fd, F, He.glo_ok X G (c.fact 32 (f := .glo "_law_heads") rfl)⟩,
   let ⟨fd, F⟩ := c.def_ 40 (d := d_law_fit) rfl; ⟨_, fd, F, He.glo_ok X G (c.fact 33 (f := .glo "_law_fit") rfl)⟩,
   let ⟨fd, F⟩ := c.def_ 41 (d := d_law_loose) rfl; ⟨_, fd, F, He.glo_ok X G (c.fact 34 (f := .glo "_law_loose") rfl)⟩,
   let ⟨fd, F⟩ := c.def_ 42 (d := d_law_kind_text) rfl; ⟨_, fd, F, He.glo_ok X G (c.fact 35 (f := .glo "_law_kind_text") rfl)⟩,
   let ⟨fd, F⟩ := c.def_ 43 (d := d_law_text) rfl; ⟨_, fd, F, He.glo_ok X G (c.fact 36 (f := .glo "_law_text") rfl)⟩,
   let ⟨fd, F⟩ := c.def_ 44 (d := d_law_any_kind) rfl; ⟨_, fd, F, He.glo_ok X G (c.fact 37 (f := .glo "_law_any_kind") rfl)⟩,
   let ⟨fd, F⟩ := c.def_ 45 (d := d_law_long_kind) rfl; ⟨_, fd, F, He.glo_ok X G (c.fact 38 (f := .glo "_law_long_kind") rfl)⟩,
   let ⟨fd, F⟩ := c.def_ 46 (d := d_law) rfl; ⟨_, fd, F, He.glo_ok X G (c.fact 39 (f := .glo "law") rfl)⟩,
   He.glo_ok X G (c.fact 40 (f := .glo "CountsError") rfl),
   He.glo_ok X G (c.fact 41 (f := .glo "BadText") rfl),
   He.glo_ok X G (c.fact 42 (f := .glo "NoKind") rfl),
   He.glo_ok X G (c.fact 43 (f := .glo "NoProgram") rfl),
   He.glo_ok X G (c.fact 44 (f := .glo "Reader") rfl),
   He.free_ok X G (c.fact 45 (f := .free "ValueError") rfl),
   He.free_ok X G (c.fact 46 (f := .free "isinstance") rfl),
   He.free_ok X G (c.fact 47 (f := .free "tuple") rfl),
   He.free_ok X G (c.fact 48 (f := .free "all") rfl),
   He.free_ok X G (c.fact 49 (f := .free "list") rfl),
   He.free_ok X G (c.fact 50 (f := .free "dict") rfl),
   He.free_ok X G (c.fact 51 (f := .free "range") rfl),
   He.free_ok X G (c.fact 52 (f := .free "sorted") rfl),
   He.free_ok X G (c.fact 53 (f := .free "int") rfl),
   He.free_ok X G (c.fact 54 (f := .free "str") rfl),
   He.free_ok X G (c.fact 55 (f := .free "len") rfl),
   He.free_ok X G (c.fact 56 (f := .free "abs") rfl),
   He.free_ok X G (c.fact 57 (f := .free "bool") rfl),
   He.free_ok X G (c.fact 58 (f := .free "super") rfl),
   let ⟨t, e⟩ := He.str_ok X G (c.fact 59 (f := .str "SMALL" "abcdefghijklmnopqrstuvwxyz") rfl); ⟨_, e, t, rfl⟩,
   let ⟨t, e⟩ := He.int_ok X G (c.fact 60 (f := .int "MOST_SIGNS" 8) rfl); ⟨_, e, t, rfl⟩,
   let ⟨t, e⟩ := He.int_ok X G (c.fact 61 (f := .int "MOST_LETTERS" 60) rfl); ⟨_, e, t, rfl⟩,
   let ⟨t, e⟩ := He.int_ok X G (c.fact 62 (f := .int "MOST_DEEP" 30) rfl); ⟨_, e, t, rfl⟩,
   let ⟨t, e⟩ := He.int_ok X G (c.fact 63 (f := .int "LAST_LETTER" 25) rfl); ⟨_, e, t, rfl⟩,
   let ⟨t, e⟩ := He.str_ok X G (c.fact 64 (f := .str "USE" "@") rfl); ⟨_, e, t, rfl⟩,
   let ⟨t, e⟩ := He.int_ok X G (c.fact 65 (f := .int "MOST_WORDS" 400) rfl); ⟨_, e, t, rfl⟩,
   let ⟨a, b, c1, d⟩ := He.exc_ok (c.fact 66 (f := .exc "NoProgram") rfl); ⟨He.glo_ok X G (c.fact 43 (f := .glo "NoProgram") rfl), a, b, c1, d⟩,
   let ⟨a, b, c1, d⟩ := He.exc_ok (c.fact 67 (f := .exc "NoKind") rfl); ⟨He.glo_ok X G (c.fact 42 (f := .glo "NoKind") rfl), a, b, c1, d⟩,
   ⟨supT_BadText, SB0, cs.at 0⟩,
   He.cls_ok (c.fact 68 (f := .cls "Reader") rfl),
   He.mkr_ok (c.fact 69 (f := .mkr "Reader") rfl),
   He.noat_ok (c.fact 70 (f := .noat "Reader" "kept_text") rfl),
   He.noat_ok (c.fact 71 (f := .noat "Reader" "kept_at") rfl),
   Us.ownC_of (He.cls_ok (c.fact 68 (f := .cls "Reader") rfl)) (Us.all_at ce 0 rfl),
   He.meth_ok (c.fact 72 (f := .meth "Reader" "sign") rfl),
   He.meth_ok (c.fact 73 (f := .meth "Reader" "is_small") rfl),
   He.meth_ok (c.fact 74 (f := .meth "Reader" "need") rfl),
   He.meth_ok (c.fact 75 (f := .meth "Reader" "name") rfl),
   He.meth_ok (c.fact 76 (f := .meth "Reader" "letter") rfl),
   He.meth_ok (c.fact 77 (f := .meth "Reader" "finish") rfl)⟩
end K10
set_option maxRecDepth 100000
set_option maxHeartbeats 2000000
/-! data in the place of the heap: what a body does, told over lists of data -/
namespace Dl
open PySem PySem.Spec PyProof.Rows L2 Us
inductive D where
  | non | bl (b : Bool) | int (i : Int) | str (s : Str)
  | tup (xs : List D) | ptup (xs : List D) | lst (xs : List D) | dct (ks : List Key) (ds : List D)
  | ins (c : Str) (ns : List Str) (ds : List D)
  | hand
mutual
def Emb (K : PySem.W.Frag) (a : Addr) (B : Hp) : D → V → Prop
  | .non, v => v = .non
  | .bl b, v => v = .bl b
  | .int i, v => v = .int i
  | .str s, v => v = .str s
  | .tup xs, v => ∃ p us, v = .ref p ∧ B p = some (.tup us) ∧ EmbL K a B xs us
  | .ptup xs, v => ∃ p us o, v = .ref p ∧ B p = some (.frz o (.tup us)) ∧ o.cls = .type "tuple" ∧ o.dict = none ∧ EmbL K a B xs us
  | .lst xs, v => ∃ p us, v = .ref p ∧ B p = some (.lst us) ∧ EmbL K a B xs us
  | .dct ks ds, v => ∃ p kvs, v = .ref p ∧ B p = some (.dK kvs) ∧ kvs.map (·.1) = ks ∧ EmbL K a B ds (kvs.map (·.2))
  | .ins c ns ds, v => ∃ p dx fs us, v = .ref p ∧ B p = some (.ins (He.ga K c) dx fs) ∧ ns.map (fun n => fs.lookup n) = us.map some ∧ EmbL K a B ds us
  | .hand, v => v = .ref a
def EmbL (K : PySem.W.Frag) (a : Addr) (B : Hp) : List D → List V → Prop
  | [], us => us = []
  | d :: ds, us => ∃ u r, us = u :: r ∧ Emb K a B d u ∧ EmbL K a B ds r
end
section
variable {K : PySem.W.Frag} {a : Addr} {B B' H H' : Hp}
mutual
theorem Emb.mono (s : Same B B') : ∀ {d : D} {v : V}, Emb K a B d v → Emb K a B' d v
  | .non, v, h => by unfold Emb at h ⊢; exact h
  | .bl b, v, h => by unfold Emb at h ⊢; exact h
  | .int i, v, h => by unfold Emb at h ⊢; exact h
  | .str z, v, h => by unfold Emb at h ⊢; exact h
  | .tup xs, v, h => by
    unfold Emb at h ⊢
    obtain ⟨p, us, e, hp, r⟩ := h
    exact ⟨p, us, e, s _ _ hp, EmbL.mono s r⟩
  | .ptup xs, v, h => by
    unfold Emb at h ⊢
    obtain ⟨p, us, o, e, hp, h1, h2, r⟩ := h
    exact ⟨p, us, o, e, s _ _ hp, h1, h2, EmbL.mono s r⟩
  | .lst xs, v, h => by
    unfold Emb at h ⊢
    obtain ⟨p, us, e, hp, r⟩ := h
    exact ⟨p, us, e, s _ _ hp, EmbL.mono s r⟩
  | .dct ks ds, v, h => by
    unfold Emb at h ⊢
    obtain ⟨p, us, e, hp, ek, r⟩ := h
    exact ⟨p, us, e, s _ _ hp, ek, EmbL.mono s r⟩
  | .ins c ns ds, v, h => by
    unfold Emb at h ⊢
    obtain ⟨p, dx, fs, us, e, hp, ek, r⟩ := h
    exact ⟨p, dx, fs, us, e, s _ _ hp, ek, EmbL.mono s r⟩
  | .hand, v, h => by unfold Emb at h ⊢; exact h
theorem EmbL.mono (s : Same B B') : ∀ {ds : List D} {us : List V}, EmbL K a B ds us → EmbL K a B' ds us
  | [], us, h => by unfold EmbL at h ⊢; exact h
  | d :: ds, us, h => by
    unfold EmbL at h ⊢
    obtain ⟨u, r, e, h1, h2⟩ := h
    exact ⟨u, r, e, Emb.mono s h1, EmbL.mono s h2⟩
end
theorem EmbL.nil : EmbL K a B [] [] := by unfold EmbL; rfl
theorem EmbL.cons {d : D} {ds : List D} {u : V} {us : List V} (h : Emb K a B d u) (r : EmbL K a B ds us) : EmbL K a B (d :: ds) (u :: us) := by unfold EmbL; exact ⟨u, us, rfl, h, r⟩
theorem EmbL.uncons {d : D} {ds : List D} {us : List V} (h : EmbL K a B (d :: ds) us) : ∃ u r, us = u :: r ∧ Emb K a B d u ∧ EmbL K a B ds r := by unfold EmbL at h; exact h
theorem EmbL.of_nil {us : List V} (h : EmbL K a B [] us) : us = [] := by unfold EmbL at h; exact h
theorem EmbL.length : ∀ {ds : List D} {us : List V}, EmbL K a B ds us → us.length = ds.length
  | [], us, h => by rw [h.of_nil]; rfl
  | d :: ds, us, h => by obtain ⟨u, r, rfl, _, h2⟩ := h.uncons; rw [List.length_cons, List.length_cons, h2.length]
theorem EmbL.append : ∀ {ds es : List D} {us ws : List V}, EmbL K a B ds us → EmbL K a B es ws → EmbL K a B (ds ++ es) (us ++ ws)
  | [], es, us, ws, h, h' => by rw [h.of_nil]; exact h'
  | d :: ds, es, us, ws, h, h' => by obtain ⟨u, r, rfl, h1, h2⟩ := h.uncons; exact .cons h1 (h2.append h')
theorem EmbL.get : ∀ {ds : List D} {us : List V} {i : Nat} {d : D}, EmbL K a B ds us → ds[i]? = some d → ∃ u, us[i]? = some u ∧ Emb K a B d u
  | [], us, i, d, h, e => by simp at e
  | x :: ds, us, 0, d, h, e => by obtain ⟨u, r, rfl, h1, h2⟩ := h.uncons; simp at e; subst e; exact ⟨u, rfl, h1⟩
  | x :: ds, us, i + 1, d, h, e => by
    obtain ⟨u, r, rfl, h1, h2⟩ := h.uncons
    obtain ⟨w, h3, h4⟩ := h2.get (i := i) (by simpa using e)
    exact ⟨w, by simpa using h3, h4⟩
theorem EmbL.take : ∀ {ds : List D} {us : List V} (n : Nat), EmbL K a B ds us → EmbL K a B (ds.take n) (us.take n)
  | ds, us, 0, h => by rw [List.take_zero, List.take_zero]; exact .nil
  | [], us, n + 1, h => by rw [h.of_nil]; exact .nil
  | d :: ds, us, n + 1, h => by obtain ⟨u, r, rfl, h1, h2⟩ := h.uncons; exact .cons h1 (h2.take n)
theorem EmbL.drop : ∀ {ds : List D} {us : List V} (n : Nat), EmbL K a B ds us → EmbL K a B (ds.drop n) (us.drop n)
  | ds, us, 0, h => h
  | [], us, n + 1, h => by rw [h.of_nil]; exact .nil
  | d :: ds, us, n + 1, h => by obtain ⟨u, r, rfl, h1, h2⟩ := h.uncons; exact h2.drop n
theorem EmbL.set {d : D} {u : V} (e : Emb K a B d u) : ∀ {ds : List D} {us : List V} (n : Nat), EmbL K a B ds us → EmbL K a B (ds.set n d) (us.set n u)
  | [], us, n, h => by rw [h.of_nil]; exact .nil
  | x :: ds, us, 0, h => by obtain ⟨w, r, rfl, h1, h2⟩ := h.uncons; exact .cons e h2
  | x :: ds, us, n + 1, h => by obtain ⟨w, r, rfl, h1, h2⟩ := h.uncons; exact .cons h1 (h2.set e n)
theorem EmbL.reverse : ∀ {ds : List D} {us : List V}, EmbL K a B ds us → EmbL K a B ds.reverse us.reverse
  | [], us, h => by rw [h.of_nil]; exact .nil
  | d :: ds, us, h => by
    obtain ⟨u, r, rfl, h1, h2⟩ := h.uncons
    rw [List.reverse_cons, List.reverse_cons]
    exact h2.reverse.append (.cons h1 .nil)
theorem EmbL.eraseIdx : ∀ {ds : List D} {us : List V} (n : Nat), EmbL K a B ds us → EmbL K a B (ds.eraseIdx n) (us.eraseIdx n)
  | [], us, n, h => by rw [h.of_nil]; exact .nil
  | d :: ds, us, 0, h => by obtain ⟨u, r, rfl, h1, h2⟩ := h.uncons; exact h2
  | d :: ds, us, n + 1, h => by obtain ⟨u, r, rfl, h1, h2⟩ := h.uncons; exact .cons h1 (h2.eraseIdx n)
theorem EmbL.dropLast {ds : List D} {us : List V} (h : EmbL K a B ds us) : EmbL K a B ds.dropLast us.dropLast := by
  rw [List.dropLast_eq_take, List.dropLast_eq_take, h.length]
  exact h.take _
theorem emb_tup {xs : List D} {us : List V} {p : Addr} (h : B p = some (.tup us)) (r : EmbL K a B xs us) : Emb K a B (.tup xs) (.ref p) := by unfold Emb; exact ⟨p, us, rfl, h, r⟩
theorem emb_lst {xs : List D} {us : List V} {p : Addr} (h : B p = some (.lst us)) (r : EmbL K a B xs us) : Emb K a B (.lst xs) (.ref p) := by unfold Emb; exact ⟨p, us, rfl, h, r⟩
theorem emb_dct {ks : List Key} {ds : List D} {kvs : List (Key × V)} {p : Addr} (h : B p = some (.dK kvs)) (e : kvs.map (·.1) = ks) (r : EmbL K a B ds (kvs.map (·.2))) : Emb K a B (.dct ks ds) (.ref p) := by unfold Emb; exact ⟨p, kvs, rfl, h, e, r⟩
theorem Emb.tup {xs : List D} {v : V} (h : Emb K a B (.tup xs) v) : ∃ p us, v = .ref p ∧ B p = some (.tup us) ∧ EmbL K a B xs us := by unfold Emb at h; exact h
theorem Emb.ptup {xs : List D} {v : V} (h : Emb K a B (.ptup xs) v) : ∃ p us o, v = .ref p ∧ B p = some (.frz o (.tup us)) ∧ o.cls = .type "tuple" ∧ o.dict = none ∧ EmbL K a B xs us := by unfold Emb at h; exact h
theorem emb_ptup {xs : List D} {us : List V} {p : Addr} {o : Obj} (h : B p = some (.frz o (.tup us))) (h1 : o.cls = .type "tuple") (h2 : o.dict = none) (r : EmbL K a B xs us) : Emb K a B (.ptup xs) (.ref p) := by unfold Emb; exact ⟨p, us, o, rfl, h, h1, h2, r⟩
theorem Emb.lst {xs : List D} {v : V} (h : Emb K a B (.lst xs) v) : ∃ p us, v = .ref p ∧ B p = some (.lst us) ∧ EmbL K a B xs us := by unfold Emb at h; exact h
theorem Emb.dct {ks : List Key} {ds : List D} {v : V} (h : Emb K a B (.dct ks ds) v) : ∃ p kvs, v = .ref p ∧ B p = some (.dK kvs) ∧ kvs.map (·.1) = ks ∧ EmbL K a B ds (kvs.map (·.2)) := by unfold Emb at h; exact h
theorem Emb.ins {c : Str} {ns : List Str} {ds : List D} {v : V} (h : Emb K a B (.ins c ns ds) v) : ∃ p dx fs us, v = .ref p ∧ B p = some (.ins (He.ga K c) dx fs) ∧ ns.map (fun n => fs.lookup n) = us.map some ∧ EmbL K a B ds us := by unfold Emb at h; exact h
theorem emb_ins {c : Str} {ns : List Str} {ds : List D} {p dx : Addr} {fs : List (Str × V)} {us : List V} (h : B p = some (.ins (He.ga K c) dx fs)) (e : ns.map (fun n => fs.lookup n) = us.map some) (r : EmbL K a B ds us) : Emb K a B (.ins c ns ds) (.ref p) := by unfold Emb; exact ⟨p, dx, fs, us, rfl, h, e, r⟩
theorem Emb.int {i : Int} {v : V} (h : Emb K a B (.int i) v) : v = .int i := by unfold Emb at h; exact h
theorem Emb.bl {b : Bool} {v : V} (h : Emb K a B (.bl b) v) : v = .bl b := by unfold Emb at h; exact h
theorem Emb.str {z : Str} {v : V} (h : Emb K a B (.str z) v) : v = .str z := by unfold Emb at h; exact h
theorem Emb.non {v : V} (h : Emb K a B .non v) : v = .non := by unfold Emb at h; exact h
theorem Emb.hand {v : V} (h : Emb K a B .hand v) : v = .ref a := by unfold Emb at h; exact h
theorem emb_int {i : Int} : Emb K a B (.int i) (.int i) := by unfold Emb; rfl
theorem emb_bl {b : Bool} : Emb K a B (.bl b) (.bl b) := by unfold Emb; rfl
theorem emb_str {z : Str} : Emb K a B (.str z) (.str z) := by unfold Emb; rfl
theorem emb_non : Emb K a B .non .non := by unfold Emb; rfl
theorem emb_hand : Emb K a B .hand (.ref a) := by unfold Emb; rfl
end
/-! ### steps of the heaps -/
/-- from (B, H) to (B', H'): B is what stands for good, H all; only what W tells is written -/
structure Stp (W : Addr → Prop) (B H B' H' : Hp) : Prop where
  bb : Same B B'
  bh : Same B' H'
  keep : ∀ b o, ¬ W b → H b = some o → H' b = some o
  there : ∀ b, H b ≠ none → H' b ≠ none
  old : ∀ b, ¬ W b → H b ≠ none → B' b = B b
abbrev No : Addr → Prop := fun _ => False
section
variable {W W' : Addr → Prop} {B H B1 H1 B2 H2 : Hp} {p : Addr} {o u : HO}
theorem Stp.refl (s : Same B H) : Stp W B H B H := ⟨Same.refl _, s, fun _ _ _ e => e, fun _ e => e, fun _ _ _ => rfl⟩
theorem Stp.trans (a : Stp W B H B1 H1) (b : Stp W B1 H1 B2 H2) : Stp W B H B2 H2 :=
  ⟨a.bb.trans b.bb, b.bh, fun c o h e => b.keep c o h (a.keep c o h e), fun c e => b.there c (a.there c e), fun c w e => (b.old c w (a.there c e)).trans (a.old c w e)⟩
theorem Stp.mono (a : Stp W B H B1 H1) (h : ∀ b, H b ≠ none → W b → W' b) : Stp W' B H B1 H1 :=
  ⟨a.bb, a.bh, fun c o hc e => a.keep c o (fun q => hc (h c (by rw [e]; exact fun z => nomatch z) q)) e, a.there, fun c hc e => a.old c (fun q => hc (h c e q)) e⟩
theorem Stp.up (a : Stp No B H B1 H1) : Stp W B H B1 H1 := a.mono fun _ _ h => h.elim
theorem Stp.fresh (a : Stp W B H B1 H1) (h : H1 p = none) : H p = none := by
  cases e : H p with
  | none => rfl
  | some o => exact absurd h (a.there p (by rw [e]; exact fun z => nomatch z))
theorem Stp.new (s : Same B H) (h : H p = none) : Stp W B H (upd B p o) (upd H p o) :=
  ⟨Same.new (bfresh s h), s.both, fun b u _ e => by rw [upd_ne (ne_of_none e h)]; exact e, fun b e => by
    by_cases hb : b = p
    · subst hb; exact absurd h e
    · rw [upd_ne hb]; exact e, fun b _ e => upd_ne (fun z => by subst z; exact e h)⟩
theorem Stp.cell (s : Same B H) (h : H p = none) : Stp W B H B (upd H p o) :=
  ⟨Same.refl _, s.under (bfresh s h), fun b u _ e => by rw [upd_ne (ne_of_none e h)]; exact e, fun b e => by
    by_cases hb : b = p
    · subst hb; exact absurd h e
    · rw [upd_ne hb]; exact e, fun _ _ _ => rfl⟩
theorem Stp.set (s : Same B H) (hB : B p = none) (hw : W p) : Stp W B H B (upd H p o) :=
  ⟨Same.refl _, s.under hB, fun b v hb e => by rw [upd_ne (fun z => hb (by rw [z]; exact hw))]; exact e, fun b e => by
    by_cases hb : b = p
    · subst hb; rw [upd_same]; exact fun z => nomatch z
    · rw [upd_ne hb]; exact e, fun _ _ _ => rfl⟩
/-- what is written stands for good from now on -/
theorem Stp.frz (s : Same B H) (hH : H p = some o) (hB : B p = none) (hw : W p) : Stp W B H (upd B p o) H :=
  ⟨Same.new hB, fun b u e => by
    by_cases hb : b = p
    · subst hb; rw [upd_same] at e; cases e; exact hH
    · rw [upd_ne hb] at e; exact s b u e, fun _ _ _ e => e, fun _ e => e, fun b hb _ => upd_ne (fun z => hb (by rw [z]; exact hw))⟩
theorem Stp.unseeS {S : Addr → Prop} (a : Stp (fun b => W b ∨ S b) B H B1 H1) (h : ∀ b, S b → H b = none) : Stp W B H B1 H1 :=
  a.mono fun b hb w => w.elim id fun e => absurd (h b e) hb
/-- seen from before p came -/
theorem Stp.unsee (a : Stp (fun b => W b ∨ b = p) B H B1 H1) (h : H p = none) : Stp W B H B1 H1 :=
  a.mono fun b hb w => w.elim id fun e => absurd (e ▸ h) hb
end
/-! ### the hand -/
def HandOk (B H : Hp) (a : Addr) : Prop := B a = none ∧ ∃ (c : Addr) (ns : List Int) (i big seed n : Int), H a = some (.lst [.ref c, .int i, .int big, .int seed, .int n]) ∧ B c = some (.lst (ns.map V.int)) ∧ (∀ x ∈ ns, 0 ≤ x) ∧ 0 ≤ i ∧ 0 ≤ big ∧ 0 ≤ seed ∧ seed < 2147483648 ∧ 0 ≤ n
theorem HandOk.ne {B H : Hp} {a : Addr} (h : HandOk B H a) : H a ≠ none := by
  obtain ⟨_, _, _, _, _, _, _, e, _⟩ := h
  rw [e]; exact fun z => nomatch z
theorem HandOk.mono {W : Addr → Prop} {B H B' H' : Hp} {a : Addr} (g : Stp W B H B' H') (hw : ¬ W a) (h : HandOk B H a) : HandOk B' H' a := by
  have hne := h.ne
  obtain ⟨hB, c, ns, i, big, seed, n, e, hc, r⟩ := h
  exact ⟨(g.old a hw hne).trans hB, c, ns, i, big, seed, n, g.keep _ _ hw e, g.bb _ _ hc, r⟩
abbrev Isa (a : Addr) : Addr → Prop := fun p => p = a
theorem Stp.gr {a : Addr} {B H B' H' : Hp} (g : Stp (Isa a) B H B' H') (h : HandOk B H a) (h' : HandOk B' H' a) : Gr [a] B H B' H' :=
  ⟨g.bb, g.bh, fun b o hb e => g.keep b o (fun z => hb (by rw [z]; exact List.mem_singleton.mpr rfl)) e, g.there, fun b e => by
    by_cases hb : b = a
    · subst hb; exact h'.1.trans h.1.symm
    · exact g.old b hb e⟩
theorem Stp.of_gr {a : Addr} {B H B' H' : Hp} (g : Gr [a] B H B' H') : Stp (Isa a) B H B' H' :=
  ⟨g.bb, g.bh, fun b o hb e => g.keep b o (fun z => hb (List.mem_singleton.mp z)) e, g.there, fun b _ e => g.old b e⟩
theorem Stp.of_gr0 {B H B' H' : Hp} (g : Gr [] B H B' H') : Stp No B H B' H' :=
  ⟨g.bb, g.bh, fun b o hb e => g.keep b o (fun z => nomatch z) e, g.there, fun b _ e => g.old b e⟩
/-! ### the slots -/
inductive Sl where
  | no | val (d : D) | own (xs : List D) | ownK (ks : List Key) (ds : List D)
  /-- a list (a dict) of own lists, that stand at ps -/
  | ownN (c : Option (List Key)) (ps : List Addr) (xss : List (List D))
  /-- a dict that is locked while it is walked; one that is read beside it -/
  | lck (ks : List Key) (ds : List D)
  | rd (ks : List Key) (ds : List D)
def Sl.isOwn : Sl → Bool
  | .own _ => true
  | .ownK _ _ => true
  | .ownN _ _ _ => true
  | _ => false
def Sl.inner : Sl → List Addr
  | .ownN _ ps _ => ps
  | _ => []
def gS : List Sl → Nat → Sl
  | [], _ => .no
  | x :: _, 0 => x
  | _ :: r, n + 1 => gS r n
theorem gS_get : ∀ (s : List Sl) (i : Nat), gS s i = s[i]?.getD .no
  | [], i => by simp [gS]
  | x :: r, 0 => by simp [gS]
  | x :: r, i + 1 => by simp [gS, gS_get r i]
theorem gS_set {s : List Sl} {i : Nat} {x : Sl} (h : i < s.length) (j : Nat) : gS (s.set i x) j = if j = i then x else gS s j := by
  rw [gS_get, gS_get, List.getElem?_set]
  by_cases e : i = j
  · subst e; simp [h]
  · rw [if_neg e, if_neg (Ne.symm e)]
theorem gS_out {s : List Sl} {i : Nat} (h : s.length ≤ i) : gS s i = .no := by rw [gS_get, List.getElem?_eq_none h]; rfl
/-- own lists, one by one -/
def Inn (K : PySem.W.Frag) (a : Addr) (B H H0 : Hp) : List Addr → List (List D) → Prop
  | [], xss => xss = []
  | q :: qs, xss => ∃ xs r us, xss = xs :: r ∧ H q = some (.lst us) ∧ B q = none ∧ H0 q = none ∧ EmbL K a B xs us ∧ q ∉ qs ∧ Inn K a B H H0 qs r
def SlR (K : PySem.W.Frag) (a : Addr) (B H H0 : Hp) : Sl → Option V → Prop
  | .no, _ => True
  | .val d, o => ∃ v, o = some v ∧ Emb K a B d v
  | .own xs, o => ∃ p us, o = some (.ref p) ∧ H p = some (.lst us) ∧ B p = none ∧ H0 p = none ∧ EmbL K a B xs us
  | .ownK ks ds, o => ∃ p kvs, o = some (.ref p) ∧ H p = some (.dK kvs) ∧ B p = none ∧ H0 p = none ∧ kvs.map (·.1) = ks ∧ EmbL K a B ds (kvs.map (·.2))
  | .ownN (some ks) ps xss, o => ∃ p kvs, o = some (.ref p) ∧ H p = some (.dK kvs) ∧ B p = none ∧ H0 p = none ∧ kvs.map (·.1) = ks ∧ kvs.map (·.2) = ps.map V.ref ∧ p ∉ ps ∧ Inn K a B H H0 ps xss
  | .ownN none ps xss, o => ∃ p, o = some (.ref p) ∧ H p = some (.lst (ps.map V.ref)) ∧ B p = none ∧ H0 p = none ∧ p ∉ ps ∧ Inn K a B H H0 ps xss
  | .lck ks ds, o => ∃ p kvs od, o = some (.ref p) ∧ B p = some (.frz od (.dK kvs)) ∧ kvs.map (·.1) = ks ∧ EmbL K a B ds (kvs.map (·.2))
  | .rd ks ds, o => ∃ p kvs, o = some (.ref p) ∧ Rd B p (.dK kvs) ∧ kvs.map (·.1) = ks ∧ EmbL K a B ds (kvs.map (·.2))
/-- the addresses that a slot owns -/
def rootA : Option V → List Addr
  | some (.ref p) => [p]
  | _ => []
def adr (sl : Sl) (o : Option V) : List Addr := match sl.isOwn with
  | true => rootA o ++ sl.inner
  | false => []
theorem adr_root {sl : Sl} {p : Addr} (h : sl.isOwn = true) : p ∈ adr sl (some (.ref p)) := by unfold adr; rw [h]; simp [rootA]
theorem adr_own {sl : Sl} {o : Option V} {p : Addr} (h : p ∈ adr sl o) : sl.isOwn = true := by
  unfold adr at h
  cases e : sl.isOwn with
  | true => rfl
  | false => rw [e] at h; cases h
theorem adr_mem {sl : Sl} {o : Option V} {p : Addr} (h : p ∈ adr sl o) : o = some (.ref p) ∨ p ∈ sl.inner := by
  unfold adr at h
  split at h
  · rcases List.mem_append.mp h with h | h
    · unfold rootA at h
      split at h
      · rw [List.mem_singleton.mp h]; exact .inl rfl
      · cases h
    · exact .inr h
  · cases h
section
variable {K : PySem.W.Frag} {a : Addr} {B H B' H' H0 : Hp}
theorem Inn.keep {W : Addr → Prop} (g : Stp W B H B' H') : ∀ {ps : List Addr} {xss : List (List D)}, (∀ p ∈ ps, ¬ W p) → Inn K a B H H0 ps xss → Inn K a B' H' H0 ps xss
  | [], xss, _, h => h
  | q :: qs, xss, hw, h => by
    obtain ⟨xs, r, us, e, h1, h2, h3, h4, h5, h6⟩ := h
    have hq := hw q (List.mem_cons_self ..)
    exact ⟨xs, r, us, e, g.keep _ _ hq h1, (g.old q hq (by rw [h1]; exact fun z => nomatch z)).trans h2, h3, h4.mono g.bb, h5, h6.keep g fun p hp => hw p (List.mem_cons_of_mem _ hp)⟩
theorem Inn.at : ∀ {ps : List Addr} {xss : List (List D)} {p : Addr}, Inn K a B H H0 ps xss → p ∈ ps → H p ≠ none ∧ B p = none ∧ H0 p = none
  | q :: qs, xss, p, h, hp => by
    obtain ⟨xs, r, us, e, h1, h2, h3, h4, h5, h6⟩ := h
    rcases List.mem_cons.mp hp with rfl | hp
    · exact ⟨by rw [h1]; exact (fun z => nomatch z), h2, h3⟩
    · exact h6.at hp
theorem SlR.keep {W : Addr → Prop} {sl : Sl} {o : Option V} (g : Stp W B H B' H') (h : SlR K a B H H0 sl o) (hw : ∀ p ∈ adr sl o, ¬ W p) : SlR K a B' H' H0 sl o := by
  have root : ∀ p u, sl.isOwn = true → o = some (.ref p) → H p = some u → B p = none → H' p = some u ∧ B' p = none := fun p u hs e h1 h2 => by
    have hq := hw p (by rw [e]; exact adr_root hs)
    exact ⟨g.keep _ _ hq h1, (g.old p hq (by rw [h1]; exact fun z => nomatch z)).trans h2⟩
  cases sl with
  | no => exact True.intro
  | val d =>
    obtain ⟨v, e, hv⟩ := h
    exact ⟨v, e, hv.mono g.bb⟩
  | lck ks ds =>
    obtain ⟨p, kvs, od, e, h1, h2, h3⟩ := h
    exact ⟨p, kvs, od, e, g.bb _ _ h1, h2, h3.mono g.bb⟩
  | rd ks ds =>
    obtain ⟨p, kvs, e, h1, h2, h3⟩ := h
    exact ⟨p, kvs, e, h1.imp (g.bb _ _) (fun ⟨o, h⟩ => ⟨o, g.bb _ _ h⟩), h2, h3.mono g.bb⟩
  | own xs =>
    obtain ⟨p, us, e, h1, h2, h3, h4⟩ := h
    obtain ⟨k1, k2⟩ := root p _ rfl e h1 h2
    exact ⟨p, us, e, k1, k2, h3, h4.mono g.bb⟩
  | ownK ks ds =>
    obtain ⟨p, us, e, h1, h2, h3, h4, h5⟩ := h
    obtain ⟨k1, k2⟩ := root p _ rfl e h1 h2
    exact ⟨p, us, e, k1, k2, h3, h4, h5.mono g.bb⟩
  | ownN c ps xss =>
    have inn : ∀ p ∈ ps, ¬ W p := fun p hp => hw p (by unfold adr Sl.isOwn Sl.inner; exact List.mem_append_right _ hp)
    cases c with
    | some ks =>
      obtain ⟨p, us, e, h1, h2, h3, h4, h5, h6, h7⟩ := h
      obtain ⟨k1, k2⟩ := root p _ rfl e h1 h2
      exact ⟨p, us, e, k1, k2, h3, h4, h5, h6, h7.keep g inn⟩
    | none =>
      obtain ⟨p, e, h1, h2, h3, h6, h7⟩ := h
      obtain ⟨k1, k2⟩ := root p _ rfl e h1 h2
      exact ⟨p, e, k1, k2, h3, h6, h7.keep g inn⟩
theorem SlR.at {sl : Sl} {o : Option V} {p : Addr} (h : SlR K a B H H0 sl o) (hp : p ∈ adr sl o) : H p ≠ none ∧ B p = none ∧ H0 p = none := by
  have hm := adr_mem hp
  cases sl with
  | no => cases adr_own hp
  | val d => cases adr_own hp
  | lck ks ds => cases adr_own hp
  | rd ks ds => cases adr_own hp
  | own xs =>
    obtain ⟨q, us, e, h1, h2, h3, h4⟩ := h
    rcases hm with hm | hm
    · rw [e] at hm; cases hm; exact ⟨by rw [h1]; exact (fun z => nomatch z), h2, h3⟩
    · cases hm
  | ownK ks ds =>
    obtain ⟨q, us, e, h1, h2, h3, h4, h5⟩ := h
    rcases hm with hm | hm
    · rw [e] at hm; cases hm; exact ⟨by rw [h1]; exact (fun z => nomatch z), h2, h3⟩
    · cases hm
  | ownN c ps xss =>
    cases c with
    | some ks =>
      obtain ⟨q, us, e, h1, h2, h3, h4, h5, h6, h7⟩ := h
      rcases hm with hm | hm
      · rw [e] at hm; cases hm; exact ⟨by rw [h1]; exact (fun z => nomatch z), h2, h3⟩
      · exact h7.at hm
    | none =>
      obtain ⟨q, e, h1, h2, h3, h6, h7⟩ := h
      rcases hm with hm | hm
      · rw [e] at hm; cases hm; exact ⟨by rw [h1]; exact (fun z => nomatch z), h2, h3⟩
      · exact h7.at hm
end
/-- the addresses that the slots own -/
def Ow (s : List Sl) (σ : L2.St) (p : Addr) : Prop := ∃ i, p ∈ adr (gS s i) (σ[i]?.join)
structure Rel (K : PySem.W.Frag) (a : Addr) (B0 H0 : Hp) (s : List Sl) (σ : L2.St) (B H : Hp) : Prop where
  gr : Stp (Isa a) B0 H0 B H
  h0 : H0 a ≠ none
  hand : HandOk B H a
  len : s.length = σ.length
  slot : ∀ i, SlR K a B H H0 (gS s i) (σ[i]?.join)
  sep : ∀ i j p, i ≠ j → p ∈ adr (gS s i) (σ[i]?.join) → p ∉ adr (gS s j) (σ[j]?.join)
theorem join_some {o : Option (Option V)} {v : V} (h : o.join = some v) : o = some (some v) := by
  cases o with
  | none => cases h
  | some x => cases x with
    | none => cases h
    | some y => cases h; rfl
section
variable {K : PySem.W.Frag} {a : Addr} {B0 H0 B H B' H' : Hp} {s : List Sl} {σ : L2.St}
theorem Rel.own_at (R : Rel K a B0 H0 s σ B H) {p : Addr} (h : Ow s σ p) : H p ≠ none ∧ B p = none ∧ H0 p = none ∧ p ≠ a := by
  obtain ⟨i, hi⟩ := h
  obtain ⟨x, y, z⟩ := (R.slot i).at hi
  exact ⟨x, y, z, fun q => R.h0 (q ▸ z)⟩
theorem Rel.notOw (R : Rel K a B0 H0 s σ B H) {p : Addr} (h : H p = none) : ¬ Ow s σ p := fun o => (R.own_at o).1 h
/-- what happens elsewhere -/
theorem Rel.elsewhere {W : Addr → Prop} (R : Rel K a B0 H0 s σ B H) (g : Stp W B H B' H') (hw : ∀ p, W p → ¬ Ow s σ p) (h0 : ∀ p, W p → H p ≠ none → p = a ∨ H0 p = none) (hd : HandOk B' H' a) : Rel K a B0 H0 s σ B' H' := by
  refine ⟨?_, R.h0, hd, R.len, fun i => (R.slot i).keep g fun p hp w => hw p w ⟨i, hp⟩, R.sep⟩
  have g1 : Stp (fun b => Isa a b ∨ H0 b = none) B0 H0 B' H' := (R.gr.mono fun b _ w => .inl w).trans (g.mono fun b hb w => (h0 b w hb).elim .inl .inr)
  exact g1.unseeS fun _ h => h
theorem Rel.step {W : Addr → Prop} (R : Rel K a B0 H0 s σ B H) (g : Stp W B H B' H') (hw : ∀ p, W p → H p ≠ none → p = a) (hd : HandOk B' H' a) : Rel K a B0 H0 s σ B' H' :=
  R.elsewhere (W := fun p => W p ∧ H p ≠ none) (g.mono fun b hb w => ⟨w, hb⟩) (fun p w o => (R.own_at o).2.2.2 (hw p w.1 w.2)) (fun p w _ => .inl (hw p w.1 w.2)) hd
theorem Rel.pure (R : Rel K a B0 H0 s σ B H) (g : Stp No B H B' H') : Rel K a B0 H0 s σ B' H' := R.step g (fun _ h => h.elim) (R.hand.mono g id)
/-- a step that writes what slot i owns -/
theorem Rel.putG {W : Addr → Prop} {sl : Sl} {i : Nat} (R : Rel K a B0 H0 s σ B H) (hi : i < s.length) (g : Stp W B H B' H') (hw : ∀ p, W p → H p ≠ none → p ∈ adr (gS s i) (σ[i]?.join)) (hs : SlR K a B' H' H0 sl (σ[i]?.join)) (hsub : ∀ p ∈ adr sl (σ[i]?.join), p ∈ adr (gS s i) (σ[i]?.join) ∨ H p = none) : Rel K a B0 H0 (s.set i sl) σ B' H' := by
  have g1 : Stp (fun b => W b ∧ H b ≠ none) B H B' H' := g.mono fun b hb w => ⟨w, hb⟩
  have own : ∀ p, W p ∧ H p ≠ none → Ow s σ p := fun p w => ⟨i, hw p w.1 w.2⟩
  have g0 : Stp (Isa a) B0 H0 B' H' := ((R.gr.mono (W' := fun b => Isa a b ∨ H0 b = none) fun b _ w => .inl w).trans (g1.mono fun b _ w => .inr (R.own_at (own b w)).2.2.1)).unseeS fun _ h => h
  refine ⟨g0, R.h0, R.hand.mono g1 fun w => (R.own_at (own a w)).2.2.2 rfl, by rw [List.length_set]; exact R.len, fun j => ?_, fun j k p hjk hj hk => ?_⟩
  · rw [gS_set hi]
    by_cases hj : j = i
    · subst hj; rw [if_pos rfl]; exact hs
    · rw [if_neg hj]
      exact (R.slot j).keep g1 fun p hp w => R.sep i j p (Ne.symm hj) (hw p w.1 w.2) hp
  · rw [gS_set hi] at hj hk
    by_cases zj : j = i
    · subst zj
      rw [if_pos rfl] at hj
      rw [if_neg (Ne.symm hjk)] at hk
      rcases hsub p hj with h | h
      · exact R.sep j k p hjk h hk
      · exact R.notOw h ⟨k, hk⟩
    · rw [if_neg zj] at hj
      by_cases zk : k = i
      · subst zk
        rw [if_pos rfl] at hk
        rcases hsub p hk with h | h
        · exact R.sep j k p hjk hj h
        · exact R.notOw h ⟨j, hj⟩
      · rw [if_neg zk] at hk
        exact R.sep j k p hjk hj hk
theorem own_lt {i : Nat} (h : (gS s i).isOwn = true) : i < s.length := by
  rcases Nat.lt_or_ge i s.length with h' | h'
  · exact h'
  · rw [gS_out h'] at h; cases h
theorem Rel.put {sl : Sl} {i : Nat} {p : Addr} (R : Rel K a B0 H0 s σ B H) (hi : (gS s i).isOwn = true) (e : σ[i]? = some (some (.ref p))) (g : Stp (Isa p) B H B' H') (hs : SlR K a B' H' H0 sl (some (.ref p))) (hin : sl.inner = [] := by rfl) : Rel K a B0 H0 (s.set i sl) σ B' H' := by
  refine R.putG (own_lt hi) g (fun q w _ => ?_) (by rw [e]; exact hs) (fun q hq => ?_)
  · rw [show q = p from w, e]; exact adr_root hi
  · rcases adr_mem hq with h | h
    · rw [e] at h; cases h; rw [e]; exact .inl (adr_root hi)
    · rw [hin] at h; cases h
/-- a slot is stored -/
theorem Rel.storeG {i : Nat} {v : V} {sl : Sl} (R : Rel K a B0 H0 s σ B H) (hs : SlR K a B H H0 sl (some v)) (hn : ∀ p ∈ adr sl (some v), ¬ Ow s σ p) : Rel K a B0 H0 (s.set i sl) (σ.set i (some v)) B H := by
  by_cases hil : i < s.length
  · have hiσ : i < σ.length := by rw [← R.len]; exact hil
    have look : ∀ j, (σ.set i (some v))[j]?.join = if j = i then some v else σ[j]?.join := fun j => by
      rw [List.getElem?_set]
      by_cases hj : j = i
      · subst hj; rw [if_pos rfl, if_pos hiσ, if_pos rfl]; rfl
      · rw [if_neg (Ne.symm hj), if_neg hj]
    refine ⟨R.gr, R.h0, R.hand, by rw [List.length_set, List.length_set]; exact R.len, fun j => ?_, fun j k p hjk hj hk => ?_⟩
    · rw [gS_set hil, look]
      by_cases hj : j = i
      · subst hj; rw [if_pos rfl, if_pos rfl]; exact hs
      · rw [if_neg hj, if_neg hj]; exact R.slot j
    · rw [gS_set hil, look] at hj hk
      by_cases zj : j = i
      · subst zj
        rw [if_pos rfl, if_pos rfl] at hj
        rw [if_neg (Ne.symm hjk), if_neg (Ne.symm hjk)] at hk
        exact hn p hj ⟨k, hk⟩
      · rw [if_neg zj, if_neg zj] at hj
        by_cases zk : k = i
        · subst zk
          rw [if_pos rfl, if_pos rfl] at hk
          exact hn p hk ⟨j, hj⟩
        · rw [if_neg zk, if_neg zk] at hk
          exact R.sep j k p hjk hj hk
  · rw [List.set_eq_of_length_le (by omega), List.set_eq_of_length_le (by rw [← R.len]; omega)]
    exact R
theorem Rel.store {i : Nat} {v : V} {sl : Sl} (R : Rel K a B0 H0 s σ B H) (hs : SlR K a B H H0 sl (some v)) (hn : ∀ p, sl.isOwn = true → v = .ref p → ¬ Ow s σ p) (hin : sl.inner = [] := by rfl) : Rel K a B0 H0 (s.set i sl) (σ.set i (some v)) B H :=
  R.storeG hs fun p hp => by
    rcases adr_mem hp with h | h
    · exact hn p (adr_own hp) (Option.some.inj h)
    · rw [hin] at h; cases h
end
/-! ### behind an expression -/
structure Aft (K : PySem.W.Frag) (a : Addr) (B0 H0 : Hp) (σ : L2.St) (s : List Sl) (B H : Hp) (s' : List Sl) (B' H' : Hp) : Prop where
  rel : Rel K a B0 H0 s' σ B' H'
  stp : Stp (fun p => p = a ∨ Ow s σ p) B H B' H'
  sub : ∀ p, Ow s' σ p → Ow s σ p
section
variable {K : PySem.W.Frag} {a : Addr} {B0 H0 B H B1 H1 B2 H2 : Hp} {s s1 s2 : List Sl} {σ : L2.St}
theorem Aft.refl (R : Rel K a B0 H0 s σ B H) : Aft K a B0 H0 σ s B H s B H := ⟨R, Stp.refl R.gr.bh, fun _ h => h⟩
theorem Aft.trans (x : Aft K a B0 H0 σ s B H s1 B1 H1) (y : Aft K a B0 H0 σ s1 B1 H1 s2 B2 H2) : Aft K a B0 H0 σ s B H s2 B2 H2 :=
  ⟨y.rel, x.stp.trans (y.stp.mono fun p _ h => h.elim .inl fun q => .inr (x.sub p q)), fun p h => x.sub p (y.sub p h)⟩
theorem Aft.pure (R : Rel K a B0 H0 s σ B H) (g : Stp No B H B1 H1) : Aft K a B0 H0 σ s B H s B1 H1 := ⟨R.pure g, g.up, fun _ h => h⟩
theorem Aft.call (R : Rel K a B0 H0 s σ B H) (g : Stp (Isa a) B H B1 H1) (h : HandOk B1 H1 a) : Aft K a B0 H0 σ s B H s B1 H1 := ⟨R.step g (fun _ h _ => h) h, g.mono fun _ _ w => .inl w, fun _ h => h⟩
theorem Aft.putG {W : Addr → Prop} {sl : Sl} {i : Nat} (R : Rel K a B0 H0 s σ B H) (hi : i < s.length) (g : Stp W B H B1 H1) (hw : ∀ p, W p → H p ≠ none → p ∈ adr (gS s i) (σ[i]?.join)) (hs : SlR K a B1 H1 H0 sl (σ[i]?.join)) (hsub : ∀ p ∈ adr sl (σ[i]?.join), p ∈ adr (gS s i) (σ[i]?.join)) : Aft K a B0 H0 σ s B H (s.set i sl) B1 H1 := by
  refine ⟨R.putG hi g hw hs fun p h => .inl (hsub p h), g.mono fun b hb w => .inr ⟨i, hw b w hb⟩, fun q ⟨j, hj⟩ => ?_⟩
  rw [gS_set hi] at hj
  by_cases z : j = i
  · subst z
    rw [if_pos rfl] at hj
    exact ⟨j, hsub q hj⟩
  · rw [if_neg z] at hj; exact ⟨j, hj⟩
theorem Aft.put {sl : Sl} {i : Nat} {p : Addr} (R : Rel K a B0 H0 s σ B H) (hi : (gS s i).isOwn = true) (e : σ[i]? = some (some (.ref p))) (g : Stp (Isa p) B H B1 H1) (hs : SlR K a B1 H1 H0 sl (some (.ref p))) (hin : sl.inner = [] := by rfl) : Aft K a B0 H0 σ s B H (s.set i sl) B1 H1 := by
  refine Aft.putG R (own_lt hi) g (fun q w _ => ?_) (by rw [e]; exact hs) (fun q hq => ?_)
  · rw [show q = p from w, e]; exact adr_root hi
  · rcases adr_mem hq with h | h
    · rw [e] at h; cases h; rw [e]; exact adr_root hi
    · rw [hin] at h; cases h
end
end Dl
set_option maxRecDepth 100000
set_option maxHeartbeats 2000000
namespace Dl
open PySem PySem.Spec PyProof.Rows L2 Us
/-- a case by a flag that stays as it is -/
def cnd (b : Bool) (A B : Prop) : Prop := match b with
  | true => A
  | false => B
theorem cnd_case {b : Bool} {A B : Prop} (h1 : b = true → A) (h2 : b = false → B) : cnd b A B := by cases b <;> first | exact h1 rfl | exact h2 rfl
theorem cnd_t {A B : Prop} (h : A) : cnd true A B := h
theorem cnd_f {A B : Prop} (h : B) : cnd false A B := h
/-! ### judgements over data -/
structure Exc where
  c : Str
  ns : List Str
  ds : List D
def XEmb (K : PySem.W.Frag) (a : Addr) (B H : Hp) (x : Exc) (cls : Value) (dd : Option Addr) : Prop :=
  cls = .ref (He.ga K x.c) ∧ ((x.ns = [] ∧ x.ds = [] ∧ dd = none) ∨ ∃ d fs, dd = some d ∧ H d = some (.xd fs) ∧ fs.map (·.1) = x.ns ∧ EmbL K a B x.ds (fs.map (·.2)))
abbrev EX := Exc → List Sl → Prop
abbrev Wp (α : Type) := List Sl → EX → (α → List Sl → Prop) → Prop
abbrev DE := Wp D
abbrev DT := Wp Bool
abbrev DA := Wp (List D)
def Lk (W : WX) (K : PySem.W.Frag) (a : Addr) (B0 H0 : Hp) (E : EX) : Prop := ∀ x s' σ' B' H' cls dd, Rel K a B0 H0 s' σ' B' H' → XEmb K a B' H' x cls dd → E x s' → W cls dd σ' H'
/-- what a reading of values gives, told by data; R tells how -/
def Snd (K : PySem.W.Frag) (W : WX) {α β : Type} (R : Addr → Hp → Hp → Hp → α → β → Prop) (te : L2.St → Hp → (β → Hp → Prop) → Prop) (t : Wp α) : Prop :=
  ∀ a B0 H0 s σ B H E P Q, Rel K a B0 H0 s σ B H → Lk W K a B0 H0 E → t s E P → (∀ x s' y B' H', Aft K a B0 H0 σ s B H s' B' H' → R a H B' H' x y → P x s' → Q y H') → te σ H Q
def RE (K : PySem.W.Frag) : Addr → Hp → Hp → Hp → D → V → Prop := fun a _ B' _ d v => Emb K a B' d v
def RT : Addr → Hp → Hp → Hp → Bool → Bool → Prop := fun _ _ _ _ b c => b = c
def RA (K : PySem.W.Frag) : Addr → Hp → Hp → Hp → List D → List V → Prop := fun a _ B' _ d v => EmbL K a B' d v
def RN (K : PySem.W.Frag) : Addr → Hp → Hp → Hp → List D → V → Prop := fun a Ho B' H' xs v => ∃ p us, v = .ref p ∧ H' p = some (.lst us) ∧ B' p = none ∧ Ho p = none ∧ EmbL K a B' xs us
def RK (K : PySem.W.Frag) : Addr → Hp → Hp → Hp → List Key × List D → V → Prop := fun a Ho B' H' x v => ∃ p kvs, v = .ref p ∧ H' p = some (.dK kvs) ∧ B' p = none ∧ Ho p = none ∧ kvs.map (·.1) = x.1 ∧ EmbL K a B' x.2 (kvs.map (·.2))
structure DPE (X : Cx) (K : PySem.W.Frag) (W : WX) (e : Expr) (te : TE) (t : DE) : Prop where
  k : X.K = K
  pe : PE X e te
  sn : Snd K W (RE K) te t
structure DPN (X : Cx) (K : PySem.W.Frag) (W : WX) (e : Expr) (te : TE) (t : DA) : Prop where
  k : X.K = K
  pe : PE X e te
  sn : Snd K W (RN K) te t
structure DPK (X : Cx) (K : PySem.W.Frag) (W : WX) (e : Expr) (te : TE) (t : Wp (List Key × List D)) : Prop where
  k : X.K = K
  pe : PE X e te
  sn : Snd K W (RK K) te t
structure DPT (X : Cx) (K : PySem.W.Frag) (W : WX) (e : Expr) (te : TT) (t : DT) : Prop where
  k : X.K = K
  pe : PT X e te
  sn : Snd K W RT te t
structure DPW (X : Cx) (K : PySem.W.Frag) (W : WX) (e : Expr) (te : TT) (t : DT) : Prop where
  k : X.K = K
  pe : PW X e te
  sn : Snd K W RT te t
structure DPA (X : Cx) (K : PySem.W.Frag) (W : WX) (es : List Expr) (te : TA) (t : DA) : Prop where
  k : X.K = K
  pe : PA X es te
  sn : Snd K W (RA K) te t
theorem DPW.pt {X : Cx} {K : PySem.W.Frag} {W : WX} {e : Expr} {te : TT} {t : DT} (h : DPW X K W e te t) : DPT X K W e te t := ⟨h.k, h.pe.pt, h.sn⟩
section
variable {K : PySem.W.Frag} {W : WX} {a : Addr} {B0 H0 B H B' H' : Hp} {s s' : List Sl} {σ : L2.St} {o : HO}
/-- what no slot owns may stand for good from now on -/
theorem Rel.frz {p : Addr} {o : HO} (R : Rel K a B0 H0 s σ B H) (hH : H p = some o) (hB : B p = none) (h0 : H0 p = none) (hn : ¬ Ow s σ p) : Rel K a B0 H0 s σ (upd B p o) H := by
  have g : Stp (Isa p) B H (upd B p o) H := Stp.frz R.gr.bh hH hB rfl
  have hpa : p ≠ a := fun z => R.h0 (z ▸ h0)
  exact R.elsewhere g (fun q w => by rw [show q = p from w]; exact hn) (fun q w _ => .inr (by rw [show q = p from w]; exact h0)) (R.hand.mono g fun z => hpa (Eq.symm z))
theorem Aft.frz {p : Addr} (x : Aft K a B0 H0 σ s B H s' B' H') (R : Rel K a B0 H0 s σ B H) (hH : H' p = some o) (hB : B' p = none) (h : H p = none) : Aft K a B0 H0 σ s B H s' (upd B' p o) H' := by
  have hn : ¬ Ow s' σ p := fun z => R.notOw h (x.sub p z)
  have h0 : H0 p = none := R.gr.fresh h
  refine ⟨x.rel.frz hH hB h0 hn, ?_, x.sub⟩
  have g : Stp (Isa p) B' H' (upd B' p o) H' := Stp.frz x.rel.gr.bh hH hB rfl
  exact ((x.stp.mono (W' := fun b => (b = a ∨ Ow s σ b) ∨ b = p) fun b _ w => .inl w).trans (g.mono fun b _ w => .inr w)).unsee h
end
section
variable {X : Cx} {K : PySem.W.Frag} {W : WX}
/-! ### new lists, as values -/
def dFrz (t : DA) : DE := fun s E P => t s E fun xs s' => P (.lst xs) s'
def dFrzK (t : Wp (List Key × List D)) : DE := fun s E P => t s E fun x s' => P (.dct x.1 x.2) s'
theorem snd_frz {te : TE} {t : DA} (h : Snd K W (RN K) te t) : Snd K W (RE K) te (dFrz t) := fun a B0 H0 s σ B H E P Q R L ht k =>
  h a B0 H0 s σ B H E _ Q R L ht fun xs s' y B' H' af ⟨p, us, e, hp, hb, ho, r⟩ q => by
    subst e
    have af' := af.frz R hp hb ho
    exact k _ s' _ _ _ af' (emb_lst upd_same (r.mono (Same.new hb))) q
theorem snd_frzK {te : TE} {t : Wp (List Key × List D)} (h : Snd K W (RK K) te t) : Snd K W (RE K) te (dFrzK t) := fun a B0 H0 s σ B H E P Q R L ht k =>
  h a B0 H0 s σ B H E _ Q R L ht fun xs s' y B' H' af ⟨p, us, e, hp, hb, ho, ek, r⟩ q => by
    subst e
    have af' := af.frz R hp hb ho
    exact k _ s' _ _ _ af' (emb_dct upd_same ek (r.mono (Same.new hb))) q
theorem de_n {e : Expr} {te : TE} {t : DA} (h : DPN X K W e te t) : DPE X K W e te (dFrz t) := ⟨h.k, h.pe, snd_frz h.sn⟩
theorem de_k {e : Expr} {te : TE} {t : Wp (List Key × List D)} (h : DPK X K W e te t) : DPE X K W e te (dFrzK t) := ⟨h.k, h.pe, snd_frzK h.sn⟩
/-! ### names, constants -/
def dVar (i : Nat) : DE := fun s _ P => match gS s i with
  | .val d => P d s
  | .own xs => P (.lst xs) (s.set i (.val (.lst xs)))
  | .ownK ks ds => P (.dct ks ds) (s.set i (.val (.dct ks ds)))
  | .ownN _ _ _ => False
  | .lck _ _ => False
  | .rd _ _ => False
  | .no => False
theorem snd_var {i : Nat} : Snd K W (RE K) (tVar i) (dVar i) := fun a B0 H0 s σ B H E P Q R L ht k => by
  have h := R.slot i
  unfold dVar at ht
  cases q : gS s i with
  | no => rw [q] at ht; exact ht.elim
  | ownN c ps xss => rw [q] at ht; exact ht.elim
  | lck ks ds => rw [q] at ht; exact ht.elim
  | rd ks ds => rw [q] at ht; exact ht.elim
  | val d =>
    rw [q] at h ht
    obtain ⟨v, e, hv⟩ := h
    exact ⟨v, join_some e, k d s v B H (.refl R) hv ht⟩
  | own xs =>
    rw [q] at h ht
    obtain ⟨p, us, e, h1, h2, h3, h4⟩ := h
    have e' := join_some e
    have em : Emb K a (upd B p (.lst us)) (.lst xs) (.ref p) := emb_lst upd_same (h4.mono (Same.new h2))
    exact ⟨_, e', k _ _ _ _ _ (.put (sl := .val (.lst xs)) R (by rw [q]; rfl) e' (Stp.frz R.gr.bh h1 h2 rfl) ⟨_, rfl, em⟩) em ht⟩
  | ownK ks ds =>
    rw [q] at h ht
    obtain ⟨p, us, e, h1, h2, h3, h4, h5⟩ := h
    have e' := join_some e
    have em : Emb K a (upd B p (.dK us)) (.dct ks ds) (.ref p) := emb_dct upd_same h4 (h5.mono (Same.new h2))
    exact ⟨_, e', k _ _ _ _ _ (.put (sl := .val (.dct ks ds)) R (by rw [q]; rfl) e' (Stp.frz R.gr.bh h1 h2 rfl) ⟨_, rfl, em⟩) em ht⟩
theorem dv (i : Nat) {x : Str} {pos : Pos} (hK : X.K = K := by rfl) (hN : X.N[i]? = some x := by rfl) (hv : Vis X.env.scope x := by first | exact Or.inl rfl | exact Or.inr (Or.inl rfl) | exact Or.inr (Or.inr rfl)) (hd : (x == ("__debug__" : Str)) = false := by decide)
    (hcd : (x == ("__classdict__" : Str)) = false := by decide) : DPE X K W (.Name x pos) (tVar i) (dVar i) := ⟨hK, pe_var hN hv hd hcd, snd_var⟩
def dC (d : D) : DE := fun s _ P => P d s
theorem snd_c {v : V} {d : D} (h : ∀ a B, Emb K a B d v) : Snd K W (RE K) (tC v) (dC d) := fun a B0 H0 s σ B H E P Q R L ht k => k d s v B H (.refl R) (h _ _) ht
theorem de_int {i : Int} {j pos} (hK : X.K = K := by rfl) : DPE X K W (.Constant (.int i) j pos) (tC (.int i)) (dC (.int i)) := ⟨hK, pe_int, snd_c fun _ _ => emb_int⟩
theorem de_bl {b : Bool} {j pos} (hK : X.K = K := by rfl) : DPE X K W (.Constant (.bool b) j pos) (tC (.bl b)) (dC (.bl b)) := ⟨hK, pe_bl, snd_c fun _ _ => emb_bl⟩
theorem de_non {j pos} (hK : X.K = K := by rfl) : DPE X K W (.Constant .none j pos) (tC .non) (dC .non) := ⟨hK, pe_non, snd_c fun _ _ => emb_non⟩
theorem de_str {x : Str} {j pos} (hK : X.K = K := by rfl) : DPE X K W (.Constant (.str x) j pos) (tC (.str x)) (dC (.str x)) := ⟨hK, pe_str, snd_c fun _ _ => emb_str⟩
/-- a module's constant -/
theorem de_gI {x : Str} {i : Int} {pos : Pos} (h : GlobV X.mg x (.int i)) (hK : X.K = K := by rfl) (hg : Gl X x := by rfl) (hd : (x == ("__debug__" : Str)) = false := by decide) : DPE X K W (.Name x pos) (tC (.int i)) (dC (.int i)) := ⟨hK, pe_globD h hg hd, snd_c fun _ _ => emb_int⟩
theorem de_gS {x : Str} {z : Str} {pos : Pos} (h : GlobV X.mg x (.str z)) (hK : X.K = K := by rfl) (hg : Gl X x := by rfl) (hd : (x == ("__debug__" : Str)) = false := by decide) : DPE X K W (.Name x pos) (tC (.str z)) (dC (.str z)) := ⟨hK, pe_globD h hg hd, snd_c fun _ _ => emb_str⟩
/-! ### two and one operand -/
/-- the operator's relation, told by data; it may make new things that stand for good -/
def LOp (K : PySem.W.Frag) (r : R2) (rd : D → D → (D → Prop) → Prop) : Prop := ∀ (a : Addr) (B H : Hp) (x y : D) (u v : V) (P : D → Prop) (Q : VK), Same B H → Emb K a B x u → Emb K a B y v → rd x y P →
  (∀ d B' H' w, Stp No B H B' H' → Emb K a B' d w → P d → Q w H') → r u v H Q
def dOp (rd : D → D → (D → Prop) → Prop) (ta tb : DE) : DE := fun s E P => ta s E fun x s1 => tb s1 E fun y s2 => rd x y fun d => P d s2
theorem snd_op {r : R2} {rd : D → D → (D → Prop) → Prop} {ea eb : TE} {ta tb : DE} (l : LOp K r rd) (ha : Snd K W (RE K) ea ta) (hb : Snd K W (RE K) eb tb) : Snd K W (RE K) (tOp r ea eb) (dOp rd ta tb) := fun a B0 H0 s σ B H E P Q R L ht k =>
  ha a B0 H0 s σ B H E _ _ R L ht fun x s1 u B1 H1 f1 e1 q1 => hb a B0 H0 s1 σ B1 H1 E _ _ f1.rel L q1 fun y s2 v B2 H2 f2 e2 q2 =>
    l a B2 H2 x y u v _ _ f2.rel.gr.bh (Emb.mono f2.stp.bb e1) e2 q2 fun d B3 H3 w g e3 p => k d s2 w B3 H3 (f1.trans (f2.trans (.pure f2.rel g))) e3 p
theorem de_op {op : Operator} {r : R2} {rd : D → D → (D → Prop) → Prop} {ea eb : TE} {ta tb : DE} {x y : Expr} {pos : Pos} (ho : OpR X (binaryOp op) r) (l : LOp K r rd) (ha : DPE X K W x ea ta) (hb : DPE X K W y eb tb) : DPE X K W (.BinOp x op y pos) (tOp r ea eb) (dOp rd ta tb) :=
  ⟨ha.k, pe_op ho ha.pe hb.pe, snd_op l ha.sn hb.sn⟩
theorem de_cmp {op : CmpOp} {r : R2} {rd : D → D → (D → Prop) → Prop} {ea eb : TE} {ta tb : DE} {x y : Expr} {pos : Pos} (ho : OpR X (compareOp op) r) (l : LOp K r rd) (ha : DPE X K W x ea ta) (hb : DPE X K W y eb tb) (hm : behindInMarks op y = false := by first | exact nomark _ | rfl) : DPE X K W (.Compare x [op] [y] pos) (tOp r ea eb) (dOp rd ta tb) :=
  ⟨ha.k, pe_cmpR ho ha.pe hb.pe hm, snd_op l ha.sn hb.sn⟩
def dTest (t : DE) : DT := fun s E P => t s E fun d s' => match d with
  | .bl b => P b s'
  | _ => False
theorem snd_test {te : TE} {t : DE} (h : Snd K W (RE K) te t) : Snd K W RT (tTest te) (dTest t) := fun a B0 H0 s σ B H E P Q R L ht k =>
  h a B0 H0 s σ B H E _ _ R L ht fun d s' v B' H' f e q => by
    cases d with
    | bl b => cases Emb.bl e; exact ⟨b, rfl, k b s' b B' H' f rfl q⟩
    | _ => exact q.elim
theorem snd_b {te : TE} {t : DE} (h : Snd K W (RE K) te t) : Snd K W RT (tB te) (dTest t) := fun a B0 H0 s σ B H E P Q R L ht k =>
  h a B0 H0 s σ B H E _ _ R L ht fun d s' v B' H' f e q => by
    cases d with
    | bl b => cases Emb.bl e; exact ⟨b, rfl, k b s' b B' H' f rfl q⟩
    | _ => exact q.elim
theorem dt_cmp {op : CmpOp} {r : R2} {rd : D → D → (D → Prop) → Prop} {ea eb : TE} {ta tb : DE} {x y : Expr} {pos : Pos} (ho : OpR X (compareOp op) r) (l : LOp K r rd) (ha : DPE X K W x ea ta) (hb : DPE X K W y eb tb) (hm : behindInMarks op y = false := by first | exact nomark _ | rfl) : DPT X K W (.Compare x [op] [y] pos) (tTest (tOp r ea eb)) (dTest (dOp rd ta tb)) :=
  ⟨ha.k, pt_cmpR ho ha.pe hb.pe hm, snd_test (snd_op l ha.sn hb.sn)⟩
theorem dt_val {e : Expr} {te : TE} {t : DE} (h : DPE X K W e te t) (he : ∀ whole, isTrue e X.env whole = (do let v ← whole; standAt e.pos; holding [v] (truthy v)) := by intro _; rfl) : DPT X K W e (tB te) (dTest t) := ⟨h.k, pt_val h.pe he, snd_b h.sn⟩
/-- a < b < c -/
def dChain (rd rd' : D → D → (D → Prop) → Prop) (ta tb tc : DE) : DE := fun s E P => ta s E fun x s1 => tb s1 E fun y s2 => rd x y fun d => match d with
  | .bl b => cnd b (tc s2 E fun z s3 => rd' y z fun d => P d s3) (P (.bl false) s2)
  | _ => False
theorem snd_chain {r r' : R2} {rd rd' : D → D → (D → Prop) → Prop} {ea eb ec : TE} {ta tb tc : DE} (l : LOp K r rd) (l' : LOp K r' rd') (ha : Snd K W (RE K) ea ta) (hb : Snd K W (RE K) eb tb) (hc : Snd K W (RE K) ec tc) : Snd K W (RE K) (tChain r r' ea eb ec) (dChain rd rd' ta tb tc) := fun a B0 H0 s σ B H E P Q R L ht k =>
  ha a B0 H0 s σ B H E _ _ R L ht fun x s1 u B1 H1 f1 e1 q1 => hb a B0 H0 s1 σ B1 H1 E _ _ f1.rel L q1 fun y s2 v B2 H2 f2 e2 q2 =>
    l a B2 H2 x y u v _ _ f2.rel.gr.bh (Emb.mono f2.stp.bb e1) e2 q2 fun d B3 H3 w g e3 p => by
      have f3 := f1.trans (f2.trans (.pure f2.rel g))
      cases d with
      | bl b =>
        cases Emb.bl e3
        refine ⟨b, rfl, ?_⟩
        cases b with
        | true =>
          refine iteT (hc a B0 H0 s2 σ B3 H3 E _ _ f3.rel L p fun z s4 w4 B4 H4 f4 e4 q4 => ?_)
          exact l' a B4 H4 y z v w4 _ _ f4.rel.gr.bh (Emb.mono (g.bb.trans f4.stp.bb) e2) e4 q4 fun d B5 H5 w g5 e5 p => k d s4 w B5 H5 (f3.trans (f4.trans (.pure f4.rel g5))) e5 p
        | false => exact iteF (k _ s2 _ B3 H3 f3 emb_bl p)
      | _ => exact p.elim
theorem de_chain {op op' : CmpOp} {r r' : R2} {rd rd' : D → D → (D → Prop) → Prop} {ea eb ec : TE} {ta tb tc : DE} {x y z : Expr} {pos : Pos} (ho : OpR X (compareOp op) r) (l : LOp K r rd) (ho' : OpR X (compareOp op') r') (l' : LOp K r' rd') (ha : DPE X K W x ea ta) (hb : DPE X K W y eb tb) (hc : DPE X K W z ec tc)
    (hm : lastMarks [op, op'] [y, z] = false := by with_unfolding_all rfl) : DPE X K W (.Compare x [op, op'] [y, z] pos) (tChain r r' ea eb ec) (dChain rd rd' ta tb tc) := ⟨ha.k, pe_chain ho ho' ha.pe hb.pe hc.pe hm, snd_chain l l' ha.sn hb.sn hc.sn⟩
theorem dt_chain {op op' : CmpOp} {r r' : R2} {rd rd' : D → D → (D → Prop) → Prop} {ea eb ec : TE} {ta tb tc : DE} {x y z : Expr} {pos : Pos} (ho : OpR X (compareOp op) r) (l : LOp K r rd) (ho' : OpR X (compareOp op') r') (l' : LOp K r' rd') (ha : DPE X K W x ea ta) (hb : DPE X K W y eb tb) (hc : DPE X K W z ec tc)
    (hm : lastMarks [op, op'] [y, z] = false := by with_unfolding_all rfl) : DPT X K W (.Compare x [op, op'] [y, z] pos) (tTest (tChain r r' ea eb ec)) (dTest (dChain rd rd' ta tb tc)) := ⟨ha.k, pt_chain ho ho' ha.pe hb.pe hc.pe hm, snd_test (snd_chain l l' ha.sn hb.sn hc.sn)⟩
def LUn (K : PySem.W.Frag) (r : V → Hp → VK → Prop) (rd : D → (D → Prop) → Prop) : Prop := ∀ (a : Addr) (B H : Hp) (x : D) (u : V) (P : D → Prop) (Q : VK), Same B H → Emb K a B x u → rd x P → (∀ d B' H' w, Stp No B H B' H' → Emb K a B' d w → P d → Q w H') → r u H Q
def dUn (rd : D → (D → Prop) → Prop) (ta : DE) : DE := fun s E P => ta s E fun x s1 => rd x fun d => P d s1
theorem de_un {op : UnaryOp} {r : V → Hp → VK → Prop} {rd : D → (D → Prop) → Prop} {ea : TE} {ta : DE} {x : Expr} {pos : Pos} (ho : UnR X (unaryOp op) r) (l : LUn K r rd) (ha : DPE X K W x ea ta) : DPE X K W (.UnaryOp op x pos) (tUn r ea) (dUn rd ta) :=
  ⟨ha.k, pe_un ho ha.pe, fun a B0 H0 s σ B H E P Q R L ht k => ha.sn a B0 H0 s σ B H E _ _ R L ht fun x s1 u B1 H1 f1 e1 q1 => l a B1 H1 x u _ _ f1.rel.gr.bh e1 q1 fun d B3 H3 w g e3 p => k d s1 w B3 H3 (f1.trans (.pure f1.rel g)) e3 p⟩
/-! ### and, or, not, if -/
def dAnd (t u : DT) : DT := fun s E P => t s E fun c s1 => cnd c (u s1 E P) (P false s1)
def dOr (t u : DT) : DT := fun s E P => t s E fun c s1 => cnd c (P true s1) (u s1 E P)
def dNot (t : DT) : DT := fun s E P => t s E fun c s1 => P (!c) s1
theorem snd_and {ta tb : TT} {t u : DT} (ha : Snd K W RT ta t) (hb : Snd K W RT tb u) : Snd K W RT (tAnd ta tb) (dAnd t u) := fun a B0 H0 s σ B H E P Q R L ht k =>
  ha a B0 H0 s σ B H E _ _ R L ht fun c s1 c' B1 H1 f1 e1 q1 => by
    cases e1
    cases c with
    | true => exact iteT (hb a B0 H0 s1 σ B1 H1 E _ _ f1.rel L q1 fun y s2 v B2 H2 f2 e2 q2 => k y s2 v B2 H2 (f1.trans f2) e2 q2)
    | false => exact iteF (k _ s1 _ B1 H1 f1 rfl q1)
theorem snd_or {ta tb : TT} {t u : DT} (ha : Snd K W RT ta t) (hb : Snd K W RT tb u) : Snd K W RT (tOr ta tb) (dOr t u) := fun a B0 H0 s σ B H E P Q R L ht k =>
  ha a B0 H0 s σ B H E _ _ R L ht fun c s1 c' B1 H1 f1 e1 q1 => by
    cases e1
    cases c with
    | false => exact iteF (hb a B0 H0 s1 σ B1 H1 E _ _ f1.rel L q1 fun y s2 v B2 H2 f2 e2 q2 => k y s2 v B2 H2 (f1.trans f2) e2 q2)
    | true => exact iteT (k _ s1 _ B1 H1 f1 rfl q1)
variable {x y : Expr} {rest : List Expr} {pos : Pos}
theorem dw_and1 {ta : TT} {t : DT} (h : DPT X K W x ta t) : DPW X K W (.BoolOp .And [x] pos) ta t := ⟨h.k, pw_and1 h.pe, h.sn⟩
theorem dw_or1 {ta : TT} {t : DT} (h : DPT X K W x ta t) : DPW X K W (.BoolOp .Or [x] pos) ta t := ⟨h.k, pw_or1 h.pe, h.sn⟩
theorem dw_and {ta tb : TT} {t u : DT} (ha : DPT X K W x ta t) (hb : DPW X K W (.BoolOp .And (y :: rest) pos) tb u) : DPW X K W (.BoolOp .And (x :: y :: rest) pos) (tAnd ta tb) (dAnd t u) := ⟨ha.k, pw_and ha.pe hb.pe, snd_and ha.sn hb.sn⟩
theorem dw_or {ta tb : TT} {t u : DT} (ha : DPT X K W x ta t) (hb : DPW X K W (.BoolOp .Or (y :: rest) pos) tb u) : DPW X K W (.BoolOp .Or (x :: y :: rest) pos) (tOr ta tb) (dOr t u) := ⟨ha.k, pw_or ha.pe hb.pe, snd_or ha.sn hb.sn⟩
theorem dt_not {ta : TT} {t : DT} (h : DPT X K W x ta t) : DPT X K W (.UnaryOp .Not x pos) (tNot ta) (dNot t) := ⟨h.k, pt_not h.pe, fun a B0 H0 s σ B H E P Q R L ht k => h.sn a B0 H0 s σ B H E _ _ R L ht fun c s1 c' B1 H1 f1 e1 q1 => k (!c) s1 (!c') B1 H1 f1 (by cases e1; rfl) q1⟩
def dAndV (t u : DE) : DE := fun s E P => t s E fun c s1 => match c with
  | .bl b => cnd b (u s1 E P) (P (.bl false) s1)
  | _ => False
def dOrV (t u : DE) : DE := fun s E P => t s E fun c s1 => match c with
  | .bl b => cnd b (P (.bl true) s1) (u s1 E P)
  | _ => False
def dNotV (t : DE) : DE := fun s E P => t s E fun c s1 => match c with
  | .bl b => P (.bl (!b)) s1
  | _ => False
theorem de_one {op : BoolOp} {ea : TE} {t : DE} (h : DPE X K W x ea t) : DPE X K W (.BoolOp op [x] pos) ea t := ⟨h.k, pe_one h.pe, h.sn⟩
theorem de_and {ea eb : TE} {t u : DE} (ha : DPE X K W x ea t) (hb : DPE X K W (.BoolOp .And (y :: rest) pos) eb u) : DPE X K W (.BoolOp .And (x :: y :: rest) pos) (tAndV ea eb) (dAndV t u) := ⟨ha.k, pe_and ha.pe hb.pe, fun a B0 H0 s σ B H E P Q R L ht k =>
  ha.sn a B0 H0 s σ B H E _ _ R L ht fun d s1 v B1 H1 f1 e1 q1 => by
    cases d with
    | bl b =>
      cases Emb.bl e1
      refine ⟨b, rfl, ?_⟩
      cases b with
      | true => exact iteT (hb.sn a B0 H0 s1 σ B1 H1 E _ _ f1.rel L q1 fun y s2 v B2 H2 f2 e2 q2 => k y s2 v B2 H2 (f1.trans f2) e2 q2)
      | false => exact iteF (k _ s1 _ B1 H1 f1 emb_bl q1)
    | _ => exact q1.elim⟩
theorem de_or {ea eb : TE} {t u : DE} (ha : DPE X K W x ea t) (hb : DPE X K W (.BoolOp .Or (y :: rest) pos) eb u) : DPE X K W (.BoolOp .Or (x :: y :: rest) pos) (tOrV ea eb) (dOrV t u) := ⟨ha.k, pe_or ha.pe hb.pe, fun a B0 H0 s σ B H E P Q R L ht k =>
  ha.sn a B0 H0 s σ B H E _ _ R L ht fun d s1 v B1 H1 f1 e1 q1 => by
    cases d with
    | bl b =>
      cases Emb.bl e1
      refine ⟨b, rfl, ?_⟩
      cases b with
      | false => exact iteF (hb.sn a B0 H0 s1 σ B1 H1 E _ _ f1.rel L q1 fun y s2 v B2 H2 f2 e2 q2 => k y s2 v B2 H2 (f1.trans f2) e2 q2)
      | true => exact iteT (k _ s1 _ B1 H1 f1 emb_bl q1)
    | _ => exact q1.elim⟩
theorem de_not {ea : TE} {t : DE} (ha : DPE X K W x ea t) : DPE X K W (.UnaryOp .Not x pos) (tNotV ea) (dNotV t) := ⟨ha.k, pe_not ha.pe, fun a B0 H0 s σ B H E P Q R L ht k =>
  ha.sn a B0 H0 s σ B H E _ _ R L ht fun d s1 v B1 H1 f1 e1 q1 => by
    cases d with
    | bl b => cases Emb.bl e1; exact ⟨b, rfl, k _ s1 _ B1 H1 f1 emb_bl q1⟩
    | _ => exact q1.elim⟩
def dIf (c : DT) (t u : DE) : DE := fun s E P => c s E fun b s1 => cnd b (t s1 E P) (u s1 E P)
theorem de_if {c : Expr} {tc : TT} {ea eb : TE} {dc : DT} {t u : DE} (hc : DPT X K W c tc dc) (ha : DPE X K W x ea t) (hb : DPE X K W y eb u) : DPE X K W (.IfExp c x y pos) (tIf tc ea eb) (dIf dc t u) := ⟨hc.k, pe_ifExp hc.pe ha.pe hb.pe, fun a B0 H0 s σ B H E P Q R L ht k =>
  hc.sn a B0 H0 s σ B H E _ _ R L ht fun c s1 c' B1 H1 f1 e1 q1 => by
    cases e1
    cases c with
    | true => exact iteT (ha.sn a B0 H0 s1 σ B1 H1 E _ _ f1.rel L q1 fun y s2 v B2 H2 f2 e2 q2 => k y s2 v B2 H2 (f1.trans f2) e2 q2)
    | false => exact iteF (hb.sn a B0 H0 s1 σ B1 H1 E _ _ f1.rel L q1 fun y s2 v B2 H2 f2 e2 q2 => k y s2 v B2 H2 (f1.trans f2) e2 q2)⟩
/-! ### arguments, displays -/
def dNil : DA := fun s _ P => P [] s
def dCons (t : DE) (u : DA) : DA := fun s E P => t s E fun d s1 => u s1 E fun ds s2 => P (d :: ds) s2
theorem da_nil (hK : X.K = K := by rfl) : DPA X K W [] tNil dNil := ⟨hK, pa_nil, fun a B0 H0 s σ B H E P Q R L ht k => k [] s [] B H (.refl R) .nil ht⟩
theorem da_cons {e : Expr} {es : List Expr} {te : TE} {tr : TA} {t : DE} {u : DA} (ha : DPE X K W e te t) (hr : DPA X K W es tr u) (hs : starEach (e :: es) X.env = (false, eval e X.env) :: starEach es X.env := by rfl) : DPA X K W (e :: es) (tCons te tr) (dCons t u) := ⟨ha.k, pa_cons ha.pe hr.pe hs, fun a B0 H0 s σ B H E P Q R L ht k =>
  ha.sn a B0 H0 s σ B H E _ _ R L ht fun x s1 v B1 H1 f1 e1 q1 => hr.sn a B0 H0 s1 σ B1 H1 E _ _ f1.rel L q1 fun y s2 w B2 H2 f2 e2 q2 => k _ s2 _ B2 H2 (f1.trans f2) (.cons (Emb.mono f2.stp.bb e1) e2) q2⟩
def dTup (t : DA) : DE := fun s E P => t s E fun xs s1 => xs.length ≤ sizeLine ∧ P (.tup xs) s1
theorem de_tup {es : List Expr} {tr : TA} {t : DA} {x1} (h : DPA X K W es tr t) : DPE X K W (.Tuple es x1 pos) (tTup tr) (dTup t) := ⟨h.k, pe_tup h.pe, fun a B0 H0 s σ B H E P Q R L ht k =>
  h.sn a B0 H0 s σ B H E _ _ R L ht fun x s1 v B1 H1 f1 e1 q1 => ⟨by have := EmbL.length e1; rw [this]; exact q1.1, fun p hp => k _ s1 _ _ _ (f1.trans (.pure f1.rel (Stp.new f1.rel.gr.bh hp))) (emb_tup upd_same (EmbL.mono (Same.new (bfresh f1.rel.gr.bh hp)) e1)) q1.2⟩⟩
def dLst (t : DA) : DA := fun s E P => t s E fun xs s1 => xs.length ≤ sizeLine ∧ P xs s1
theorem dn_lst {es : List Expr} {tr : TA} {t : DA} (h : DPA X K W es tr t) : DPN X K W (.List es pos) (tLst tr) (dLst t) := ⟨h.k, pe_lst h.pe, fun a B0 H0 s σ B H E P Q R L ht k =>
  h.sn a B0 H0 s σ B H E _ _ R L ht fun x s1 v B1 H1 f1 e1 q1 => ⟨by have := EmbL.length e1; rw [this]; exact q1.1, fun p hp => k _ s1 _ _ _ (f1.trans (.pure f1.rel (Stp.cell f1.rel.gr.bh hp))) ⟨p, v, rfl, upd_same, bfresh f1.rel.gr.bh hp, f1.stp.fresh hp, e1⟩ q1.2⟩⟩
/-! ### calls of built-in things by values -/
def LCall (K : PySem.W.Frag) (r : List V → Hp → VK → Prop) (rd : List D → (D → Prop) → Prop) : Prop := ∀ (a : Addr) (B H : Hp) (xs : List D) (us : List V) (P : D → Prop) (Q : VK), Same B H → EmbL K a B xs us → rd xs P →
  (∀ d B' H' w, Stp No B H B' H' → Emb K a B' d w → P d → Q w H') → r us H Q
def LCallN (K : PySem.W.Frag) (r : List V → Hp → VK → Prop) (rd : List D → (List D → Prop) → Prop) : Prop := ∀ (a : Addr) (B H : Hp) (xs : List D) (us : List V) (P : List D → Prop) (Q : VK), Same B H → EmbL K a B xs us → rd xs P →
  (∀ d B' H' w, Stp No B H B' H' → RN K a H B' H' d w → P d → Q w H') → r us H Q
def dCB (rd : List D → (D → Prop) → Prop) (t : DA) : DE := fun s E P => t s E fun ds s1 => rd ds fun d => P d s1
def dCBN (rd : List D → (List D → Prop) → Prop) (t : DA) : DA := fun s E P => t s E fun ds s1 => rd ds fun d => P d s1
theorem RN.up {Ho1 Ho2 B1 B2 B' H' : Hp} {a : Addr} {W' : Addr → Prop} {xs : List D} {v : V} (g : Stp W' B1 Ho1 B2 Ho2) (h : RN K a Ho2 B' H' xs v) : RN K a Ho1 B' H' xs v := by
  obtain ⟨p, us, e, h1, h2, h3, h4⟩ := h
  exact ⟨p, us, e, h1, h2, g.fresh h3, h4⟩
theorem snd_cb {r : List V → Hp → VK → Prop} {rd : List D → (D → Prop) → Prop} {tr : TA} {t : DA} (l : LCall K r rd) (h : Snd K W (RA K) tr t) : Snd K W (RE K) (tCB r tr) (dCB rd t) := fun a B0 H0 s σ B H E P Q R L ht k =>
  h a B0 H0 s σ B H E _ _ R L ht fun x s1 v B1 H1 f1 e1 q1 => l a B1 H1 x v _ _ f1.rel.gr.bh e1 q1 fun d B3 H3 w g e3 p => k d s1 w B3 H3 (f1.trans (.pure f1.rel g)) e3 p
theorem snd_cbN {r : List V → Hp → VK → Prop} {rd : List D → (List D → Prop) → Prop} {tr : TA} {t : DA} (l : LCallN K r rd) (h : Snd K W (RA K) tr t) : Snd K W (RN K) (tCB r tr) (dCBN rd t) := fun a B0 H0 s σ B H E P Q R L ht k =>
  h a B0 H0 s σ B H E _ _ R L ht fun x s1 v B1 H1 f1 e1 q1 => l a B1 H1 x v _ _ f1.rel.gr.bh e1 q1 fun d B3 H3 w g e3 p => k d s1 w B3 H3 (f1.trans (.pure f1.rel g)) (RN.up f1.stp e3) p
end
end Dl
set_option maxRecDepth 100000
set_option maxHeartbeats 2000000
namespace Dl
open PySem PySem.Spec PyProof.Rows L2 Us
structure EndsD where
  nx : List Sl → Prop
  rt : D → Prop
  bk : List Sl → Prop := fun _ => False
  ct : List Sl → Prop := fun _ => False
  ex : EX := fun _ _ => False
  /-- a new dict is returned -/
  rk : List Key × List D → Prop := fun _ => False
  /-- a new list is returned -/
  rn : List D → Prop := fun _ => False
abbrev DS := EndsD → List Sl → Prop
structure EndsOk (K : PySem.W.Frag) (a : Addr) (B0 H0 B : Hp) (D' : EndsD) (D : Ends) : Prop where
  nx : ∀ s' σ' B' H', Rel K a B0 H0 s' σ' B' H' → Same B B' → D'.nx s' → D.nx σ' H'
  rt : ∀ d v B' H', Stp (Isa a) B0 H0 B' H' → HandOk B' H' a → Emb K a B' d v → D'.rt d → D.rt v H'
  bk : ∀ s' σ' B' H', Rel K a B0 H0 s' σ' B' H' → Same B B' → D'.bk s' → D.bk σ' H'
  ct : ∀ s' σ' B' H', Rel K a B0 H0 s' σ' B' H' → Same B B' → D'.ct s' → D.ct σ' H'
  rk : ∀ x v B' H', Stp (Isa a) B0 H0 B' H' → HandOk B' H' a → RK K a H0 B' H' x v → D'.rk x → D.rt v H'
  rn : ∀ xs v B' H', Stp (Isa a) B0 H0 B' H' → HandOk B' H' a → RN K a H0 B' H' xs v → D'.rn xs → D.rt v H'
theorem EndsOk.mono {K : PySem.W.Frag} {a : Addr} {B0 H0 B B1 : Hp} {D' : EndsD} {D : Ends} (s : Same B B1) (h : EndsOk K a B0 H0 B D' D) : EndsOk K a B0 H0 B1 D' D :=
  ⟨fun s' σ' B' H' R s2 => h.nx s' σ' B' H' R (s.trans s2), h.rt, fun s' σ' B' H' R s2 => h.bk s' σ' B' H' R (s.trans s2), fun s' σ' B' H' R s2 => h.ct s' σ' B' H' R (s.trans s2), h.rk, h.rn⟩
def SndS (K : PySem.W.Frag) (W : WX) (ts : TS) (t : DS) : Prop := ∀ a B0 H0 s σ B H (D' : EndsD) (D : Ends), Rel K a B0 H0 s σ B H → Lk W K a B0 H0 D'.ex → EndsOk K a B0 H0 B D' D → t D' s → ts D σ H
structure DPS (X : Cx) (K : PySem.W.Frag) (W : WX) (st : Stmt) (ts : TS) (t : DS) : Prop where
  k : X.K = K
  ps : PS X st ts
  sn : SndS K W ts t
structure DPSs (X : Cx) (K : PySem.W.Frag) (W : WX) (st : List Stmt) (ts : TS) (t : DS) : Prop where
  k : X.K = K
  ps : PSs X st ts
  sn : SndS K W ts t
section
variable {X : Cx} {K : PySem.W.Frag} {W : WX} {st : Stmt} {sts : List Stmt} {ts us : TS} {t u : DS} {e : Expr} {te : TE} {td : DE} {pos : Pos}
def dSeq (t u : DS) : DS := fun D s => t { D with nx := u D } s
def dNext : DS := fun D s => D.nx s
def dBreak : DS := fun D s => D.bk s
def dCont : DS := fun D s => D.ct s
theorem dss_cons (h : DPS X K W st ts t) (h' : DPSs X K W sts us u) : DPSs X K W (st :: sts) (tSeq ts us) (dSeq t u) := ⟨h.k, pss_cons h.ps h'.ps, fun a B0 H0 s σ B H D' D R L ok ht =>
  h.sn a B0 H0 s σ B H { D' with nx := u D' } { D with nx := us D } R L ⟨fun s' σ' B' H' R' sb q => h'.sn a B0 H0 s' σ' B' H' D' D R' L (ok.mono sb) q, ok.rt, ok.bk, ok.ct, ok.rk, ok.rn⟩ ht⟩
theorem dss_one (h : DPS X K W st ts t) : DPSs X K W [st] ts t := ⟨h.k, pss_one h.ps, h.sn⟩
theorem dss_nil (hK : X.K = K := by rfl) : DPSs X K W [] tNext dNext := ⟨hK, pss_nil, fun a B0 H0 s σ B H D' D R L ok ht => ok.nx s σ B H R (Same.refl _) ht⟩
theorem ds_pass (hK : X.K = K := by rfl) : DPS X K W (.Pass pos) tNext dNext := ⟨hK, ps_pass, fun a B0 H0 s σ B H D' D R L ok ht => ok.nx s σ B H R (Same.refl _) ht⟩
theorem ds_break (hK : X.K = K := by rfl) : DPS X K W (.Break pos) tBreak dBreak := ⟨hK, ps_break, fun a B0 H0 s σ B H D' D R L ok ht => ok.bk s σ B H R (Same.refl _) ht⟩
theorem ds_continue (hK : X.K = K := by rfl) : DPS X K W (.Continue pos) tCont dCont := ⟨hK, ps_continue, fun a B0 H0 s σ B H D' D R L ok ht => ok.ct s σ B H R (Same.refl _) ht⟩
def dSet (i : Nat) (t : DE) : DS := fun D s => t s D.ex fun d s1 => D.nx (s1.set i (.val d))
def dSetN (i : Nat) (t : DA) : DS := fun D s => t s D.ex fun xs s1 => D.nx (s1.set i (.own xs))
def dSetK (i : Nat) (t : Wp (List Key × List D)) : DS := fun D s => t s D.ex fun x s1 => D.nx (s1.set i (.ownK x.1 x.2))
theorem snd_set {i : Nat} (h : Snd K W (RE K) te td) : SndS K W (tAsg te (gName i)) (dSet i td) := fun a B0 H0 s σ B H D' D R L ok ht =>
  h a B0 H0 s σ B H _ _ _ R L ht fun d s1 v B1 H1 f e q => ok.nx _ _ B1 H1 (f.rel.store (sl := .val d) ⟨v, rfl, e⟩ fun p z => (nomatch z)) f.stp.bb q
theorem snd_setN {i : Nat} {tn : DA} (h : Snd K W (RN K) te tn) : SndS K W (tAsg te (gName i)) (dSetN i tn) := fun a B0 H0 s σ B H D' D R L ok ht =>
  h a B0 H0 s σ B H _ _ _ R L ht fun d s1 v B1 H1 f ⟨p, us, e, h1, h2, h3, h4⟩ q => ok.nx _ _ B1 H1 (f.rel.store (sl := .own d) ⟨p, us, by rw [e], h1, h2, R.gr.fresh h3, h4⟩ fun p' _ z o => by
    rw [e] at z; cases z; exact R.notOw h3 (f.sub _ o)) f.stp.bb q
theorem snd_setK {i : Nat} {tn : Wp (List Key × List D)} (h : Snd K W (RK K) te tn) : SndS K W (tAsg te (gName i)) (dSetK i tn) := fun a B0 H0 s σ B H D' D R L ok ht =>
  h a B0 H0 s σ B H _ _ _ R L ht fun d s1 v B1 H1 f ⟨p, us, e, h1, h2, h3, h4, h5⟩ q => ok.nx _ _ B1 H1 (f.rel.store (sl := .ownK d.1 d.2) ⟨p, us, by rw [e], h1, h2, R.gr.fresh h3, h4, h5⟩ fun p' _ z o => by
    rw [e] at z; cases z; exact R.notOw h3 (f.sub _ o)) f.stp.bb q
theorem ds_set {i : Nat} {x : Str} {pos' : Pos} (hN : X.N.Nodup) (hi : X.N[i]? = some x) (hx : Loc X.env.scope x) (he : DPE X K W e te td) (hs : swapsWith e (some (.Name x pos')) pos.line X.env = pure false := by rfl) (hf : X.fn x = true ∨ X.env.scope.names.lookup x = some .local := by first | exact .inl rfl | exact .inr rfl | assumption) :
    DPS X K W (.Assign [.Name x pos'] e pos) (tAsg te (gName i)) (dSet i td) := ⟨he.k, ps_set hN hi hx he.pe hs hf, snd_set he.sn⟩
theorem ds_setN {i : Nat} {x : Str} {pos' : Pos} {tn : DA} (hN : X.N.Nodup) (hi : X.N[i]? = some x) (hx : Loc X.env.scope x) (he : DPN X K W e te tn) (hs : swapsWith e (some (.Name x pos')) pos.line X.env = pure false := by rfl) (hf : X.fn x = true ∨ X.env.scope.names.lookup x = some .local := by first | exact .inl rfl | exact .inr rfl | assumption) :
    DPS X K W (.Assign [.Name x pos'] e pos) (tAsg te (gName i)) (dSetN i tn) := ⟨he.k, ps_set hN hi hx he.pe hs hf, snd_setN he.sn⟩
theorem ds_setK {i : Nat} {x : Str} {pos' : Pos} {tn : Wp (List Key × List D)} (hN : X.N.Nodup) (hi : X.N[i]? = some x) (hx : Loc X.env.scope x) (he : DPK X K W e te tn) (hs : swapsWith e (some (.Name x pos')) pos.line X.env = pure false := by rfl) (hf : X.fn x = true ∨ X.env.scope.names.lookup x = some .local := by first | exact .inl rfl | exact .inr rfl | assumption) :
    DPS X K W (.Assign [.Name x pos'] e pos) (tAsg te (gName i)) (dSetK i tn) := ⟨he.k, ps_set hN hi hx he.pe hs hf, snd_setK he.sn⟩
def dRet (t : DE) : DS := fun D s => t s D.ex fun d _ => D.rt d
theorem ds_ret (he : DPE X K W e te td) : DPS X K W (.Return (some e) pos) (tRet te) (dRet td) := ⟨he.k, ps_ret he.pe, fun a B0 H0 s σ B H D' D R L ok ht =>
  he.sn a B0 H0 s σ B H _ _ _ R L ht fun d s1 v B1 H1 f e q => ok.rt d v B1 H1 f.rel.gr f.rel.hand e q⟩
def dRetN : DS := fun D _ => D.rt .non
theorem ds_retN (hK : X.K = K := by rfl) : DPS X K W (.Return none pos) tRetN dRetN := ⟨hK, ps_retN, fun a B0 H0 s σ B H D' D R L ok ht => ok.rt .non .non B H R.gr R.hand emb_non ht⟩
def dDrop (t : DE) : DS := fun D s => t s D.ex fun _ s1 => D.nx s1
theorem ds_expr (he : DPE X K W e te td) (hs : swapsWith e none pos.line X.env = pure false := by rfl) : DPS X K W (.Expr e pos) (tDrop te) (dDrop td) := ⟨he.k, ps_expr he.pe hs, fun a B0 H0 s σ B H D' D R L ok ht =>
  he.sn a B0 H0 s σ B H _ _ _ R L ht fun d s1 v B1 H1 f e q => ok.nx _ _ B1 H1 f.rel f.stp.bb q⟩
def dIfS (c : DT) (t u : DS) : DS := fun D s => c s D.ex fun b s1 => cnd b (t D s1) (u D s1)
theorem ds_if {c : Expr} {x y : List Stmt} {tc : TT} {dc : DT} (hc : DPT X K W c tc dc) (ha : DPSs X K W x ts t) (hb : DPSs X K W y us u) : DPS X K W (.If c x y pos) (tIfS tc ts us) (dIfS dc t u) := ⟨hc.k, ps_if hc.pe ha.ps hb.ps, fun a B0 H0 s σ B H D' D R L ok ht =>
  hc.sn a B0 H0 s σ B H _ _ _ R L ht fun c s1 c' B1 H1 f e q => by
    cases e
    cases c with
    | true => exact iteT (ha.sn a B0 H0 s1 σ B1 H1 D' D f.rel L (ok.mono f.stp.bb) q)
    | false => exact iteF (hb.sn a B0 H0 s1 σ B1 H1 D' D f.rel L (ok.mono f.stp.bb) q)⟩
def dWhile (c : DT) (t : DS) : DS := fun D s => ∃ Wv : Nat → List Sl → Prop, (∃ m, Wv m s) ∧ ∀ m s, Wv m s → c s D.ex fun b s1 => cnd b (t { D with nx := fun s' => ∃ m', m' < m ∧ Wv m' s', ct := fun s' => ∃ m', m' < m ∧ Wv m' s', bk := D.nx } s1) (D.nx s1)
theorem ds_while {c : Expr} {body : List Stmt} {tc : TT} {dc : DT} (hp : PassesOwn (model X.prog X.w) X.A X.env X.xe) (hc : DPT X K W c tc dc) (hb : DPSs X K W body ts t) : DPS X K W (.While c body [] pos) (tWhile tc ts) (dWhile dc t) := ⟨hc.k, ps_while hp hc.pe hb.ps, fun a B0 H0 s σ B H D' D R L ok ⟨Wv, ⟨m0, w0⟩, turn⟩ => by
  refine ⟨fun m σ H => ∃ s B', Rel K a B0 H0 s σ B' H ∧ Same B B' ∧ Wv m s, ⟨m0, s, B, R, Same.refl _, w0⟩, ?_⟩
  rintro m σ1 H1 ⟨s1, B1, R1, sB, w1⟩
  refine hc.sn a B0 H0 s1 σ1 B1 H1 _ _ _ R1 L (turn m s1 w1) fun c s2 c' B2 H2 f e q => ?_
  cases e
  have sB2 := sB.trans f.stp.bb
  cases c with
  | true =>
    refine iteT ⟨fun σ' H' => ∃ m', m' < m ∧ ∃ s B', Rel K a B0 H0 s σ' B' H' ∧ Same B B' ∧ Wv m' s, fun σ' H' h => h, ?_⟩
    exact hb.sn a B0 H0 s2 σ1 B2 H2 { D' with nx := fun s' => ∃ m', m' < m ∧ Wv m' s', ct := fun s' => ∃ m', m' < m ∧ Wv m' s', bk := D'.nx } _ f.rel L ⟨fun s' σ' B' H' R' sb z => let ⟨m', h1, h2⟩ := z; ⟨m', h1, s', B', R', sB2.trans sb, h2⟩, ok.rt, fun s' σ' B' H' R' sb z => ok.nx s' σ' B' H' R' (sB2.trans sb) z, fun s' σ' B' H' R' sb z => let ⟨m', h1, h2⟩ := z; ⟨m', h1, s', B', R', sB2.trans sb, h2⟩, ok.rk, ok.rn⟩ q
  | false => exact iteF (ok.nx s2 σ1 B2 H2 f.rel sB2 q)⟩
end
/-! ### what a for walks -/
structure JOk (K : PySem.W.Frag) (a : Addr) (J : It) (xs : List D) (B : Hp) : Prop where
  go : ∀ i B2 H2, Same B B2 → Same B2 H2 → i < xs.length → J.go i H2
  yld : ∀ i B2 H2 x H3, Same B B2 → Same B2 H2 → i < xs.length → J.yld i H2 x H3 → ∃ d, xs[i]? = some d ∧ ∃ B3, Stp No B2 H2 B3 H3 ∧ Emb K a B3 d x
  stop : ∀ i B2 H2, Same B B2 → Same B2 H2 → i = xs.length → J.stop i H2
def SndI (K : PySem.W.Frag) (W : WX) (wi : TI) (t : DA) : Prop := ∀ a B0 H0 s σ B H E P (Q : It → Hp → Prop), Rel K a B0 H0 s σ B H → Lk W K a B0 H0 E → t s E P → (∀ xs s' J B' H', Aft K a B0 H0 σ s B H s' B' H' → JOk K a J xs B' → P xs s' → Q J H') → wi σ H Q
structure DPI (X : Cx) (K : PySem.W.Frag) (W : WX) (tg iter : Expr) (wi : TI) (t : DA) : Prop where
  k : X.K = K
  pi : PI X tg iter wi
  sn : SndI K W wi t
def dItems (t : DE) : DA := fun s E P => t s E fun d s1 => match d with
  | .lst xs => P xs s1
  | .tup xs => P xs s1
  | _ => False
def dItL (t : DE) : DA := fun s E P => t s E fun d s1 => match d with
  | .lst xs => P xs s1
  | _ => False
def dItT (t : DE) : DA := fun s E P => t s E fun d s1 => match d with
  | .tup xs => P xs s1
  | _ => False
section
variable {X : Cx} {K : PySem.W.Frag} {W : WX} {e tg : Expr} {te : TE} {t : DE} {a : Addr} {B : Hp} {p : Addr} {us : List V} {xs : List D}
theorem jok_lst (h : B p = some (.lst us)) (r : EmbL K a B xs us) : JOk K a (Itl K p) xs B := by
  have le := r.length
  have sq : ∀ {B2 H2 : Hp}, Same B B2 → Same B2 H2 → SqL K H2 p us := fun s1 s2 => SqL.of (s2 _ _ (s1 _ _ h))
  refine ⟨fun i B2 H2 s1 s2 hi => ⟨us, us[i]'(by omega), sq s1 s2, by simp⟩, fun i B2 H2 x H3 s1 s2 hi y => ?_, fun i B2 H2 s1 s2 hi => ⟨us, sq s1 s2, by omega⟩⟩
  obtain ⟨rfl, y⟩ := y
  have hx := y us (sq s1 s2)
  obtain ⟨w, hw, ew⟩ := r.get (List.getElem?_eq_getElem hi)
  rw [hx] at hw
  cases hw
  exact ⟨_, List.getElem?_eq_getElem hi, B2, Stp.refl s2, ew.mono s1⟩
theorem jok_tup (h : B p = some (.tup us)) (r : EmbL K a B xs us) : JOk K a (Itt K p) xs B := by
  have le := r.length
  have sq : ∀ {B2 H2 : Hp}, Same B B2 → Same B2 H2 → SqT K H2 p us := fun s1 s2 => SqT.of (s2 _ _ (s1 _ _ h))
  refine ⟨fun i B2 H2 s1 s2 hi => ⟨us, us[i]'(by omega), sq s1 s2, by simp⟩, fun i B2 H2 x H3 s1 s2 hi y => ?_, fun i B2 H2 s1 s2 hi => ⟨us, sq s1 s2, by omega⟩⟩
  obtain ⟨rfl, y⟩ := y
  have hx := y us (sq s1 s2)
  obtain ⟨w, hw, ew⟩ := r.get (List.getElem?_eq_getElem hi)
  rw [hx] at hw
  cases hw
  exact ⟨_, List.getElem?_eq_getElem hi, B2, Stp.refl s2, ew.mono s1⟩
theorem di_list (h : DPE X K W e te t) : DPI X K W tg e (iList K te) (dItL t) := ⟨h.k, by have hk := h.k; subst hk; exact pi_list h.pe, fun a B0 H0 s σ B H E P Q R L ht k =>
  h.sn a B0 H0 s σ B H E _ _ R L ht fun d s1 v B1 H1 f em q => by
    cases d with
    | lst xs =>
      obtain ⟨p, us, rfl, hp, r⟩ := Emb.lst em
      exact ⟨p, rfl, ⟨us, SqL.of (f.rel.gr.bh _ _ hp)⟩, k xs s1 _ B1 H1 f (jok_lst hp r) q⟩
    | _ => exact q.elim⟩
theorem di_tup (h : DPE X K W e te t) : DPI X K W tg e (iTup K te) (dItT t) := ⟨h.k, by have hk := h.k; subst hk; exact pi_tup h.pe, fun a B0 H0 s σ B H E P Q R L ht k =>
  h.sn a B0 H0 s σ B H E _ _ R L ht fun d s1 v B1 H1 f em q => by
    cases d with
    | tup xs =>
      obtain ⟨p, us, rfl, hp, r⟩ := Emb.tup em
      exact ⟨p, rfl, ⟨us, SqT.of (f.rel.gr.bh _ _ hp)⟩, k xs s1 _ B1 H1 f (jok_tup hp r) q⟩
    | _ => exact q.elim⟩
def rngD (lo : Int) (n : Nat) : List D := (List.range n).map fun (i : Nat) => .int (lo + i)
theorem jok_rng {lo : Int} {n : Nat} : JOk K a (Itr lo n) (rngD lo n) B := by
  have le : (rngD lo n).length = n := by simp [rngD]
  refine ⟨fun i B2 H2 s1 s2 hi => by rw [le] at hi; exact hi, fun i B2 H2 x H3 s1 s2 hi y => ?_, fun i B2 H2 s1 s2 hi => by rw [le] at hi; exact Nat.le_of_eq hi.symm⟩
  obtain ⟨rfl, rfl⟩ := y
  rw [le] at hi
  exact ⟨.int (lo + i), by unfold rngD; rw [List.getElem?_map, List.getElem?_range hi]; rfl, B2, Stp.refl s2, emb_int⟩
def dRng1 (t : DA) : DA := fun s E P => t s E fun ds s1 => match ds with
  | [.int j] => (-(2 ^ 62) ≤ j ∧ j < 2 ^ 62) ∧ P (rngD 0 j.toNat) s1
  | _ => False
def dRng2 (t : DA) : DA := fun s E P => t s E fun ds s1 => match ds with
  | [.int i, .int j] => (-(2 ^ 62) ≤ i ∧ i < 2 ^ 62 ∧ -(2 ^ 62) ≤ j ∧ j < 2 ^ 62) ∧ P (rngD i (j - i).toNat) s1
  | _ => False
theorem embl1 {d : D} {us : List V} (h : EmbL K a B [d] us) : ∃ u, us = [u] ∧ Emb K a B d u := by
  obtain ⟨u, r, rfl, h1, h2⟩ := h.uncons
  rw [h2.of_nil]
  exact ⟨u, rfl, h1⟩
theorem embl2 {d d' : D} {us : List V} (h : EmbL K a B [d, d'] us) : ∃ u v, us = [u, v] ∧ Emb K a B d u ∧ Emb K a B d' v := by
  obtain ⟨u, r, rfl, h1, h2⟩ := h.uncons
  obtain ⟨v, rfl, h3⟩ := embl1 h2
  exact ⟨u, v, rfl, h1, h3⟩
theorem di_range1 {e1 : Expr} {ta : TA} {td : DA} {p pos : Pos} (hg : Gl X "range") (hm : X.mg "range" = none) (ha : DPA X K W [e1] ta td) (hs : starEach [e1] X.env = [(false, eval e1 X.env)] := by rfl) : DPI X K W tg (.Call (.Name "range" p) [e1] [] pos) (iRng1 ta) (dRng1 td) := ⟨ha.k, pi_range1 hg hm ha.pe hs, fun a B0 H0 s σ B H E P Q R L ht k =>
  ha.sn a B0 H0 s σ B H E _ _ R L ht fun ds s1 v B1 H1 f em q => by
    match ds, q with
    | [.int j], q =>
      obtain ⟨u, rfl, hu⟩ := embl1 em
      cases Emb.int hu
      exact ⟨j, rfl, q.1.1, q.1.2, k _ s1 _ B1 H1 f jok_rng q.2⟩⟩
theorem di_range2 {e1 e2 : Expr} {ta : TA} {td : DA} {p pos : Pos} (hg : Gl X "range") (hm : X.mg "range" = none) (ha : DPA X K W [e1, e2] ta td) (hs : starEach [e1, e2] X.env = [(false, eval e1 X.env), (false, eval e2 X.env)] := by rfl) (hs2 : starEach [e2] X.env = [(false, eval e2 X.env)] := by rfl) : DPI X K W tg (.Call (.Name "range" p) [e1, e2] [] pos) (iRng2 ta) (dRng2 td) := ⟨ha.k, pi_range2 hg hm ha.pe hs hs2, fun a B0 H0 s σ B H E P Q R L ht k =>
  ha.sn a B0 H0 s σ B H E _ _ R L ht fun ds s1 v B1 H1 f em q => by
    match ds, q with
    | [.int i, .int j], q =>
      obtain ⟨u, w, rfl, hu, hw⟩ := embl2 em
      cases Emb.int hu
      cases Emb.int hw
      exact ⟨i, j, rfl, q.1, k _ s1 _ B1 H1 f jok_rng q.2⟩⟩
end
/-! ### targets -/
def wS (s : List Sl) : List Nat → List Sl
  | [] => s
  | v :: vs => (wS s vs).set v .no
def rS (s t : List Sl) : List Nat → List Sl
  | [] => t
  | v :: vs => (rS s t vs).set v (gS s v)
abbrev DG := D → List Sl → (List Sl → Prop) → Prop
def SndG (K : PySem.W.Frag) (vs : List Nat) (g : TG) (t : DG) : Prop := ∀ a B0 H0 s σ B H d v (P : List Sl → Prop) (Q : L2.St → Hp → Prop), Rel K a B0 H0 s σ B H → Emb K a B d v → t d s P →
  (∀ s' σ', Rel K a B0 H0 s' σ' B H → wipe σ' vs = wipe σ vs → (∀ p, Ow s' σ' p → Ow s σ p) → P s' → Q σ' H) → g v σ H Q
structure DPG (X : Cx) (K : PySem.W.Frag) (vs : List Nat) (tg : Expr) (g : TG) (t : DG) : Prop where
  k : X.K = K
  pg : PG X tg g
  sn : SndG K vs g t
def dName (i : Nat) : DG := fun d s P => P (s.set i (.val d))
theorem wipe_set {σ : L2.St} {i : Nat} {x : Option V} : ∀ {vs : List Nat}, i ∈ vs → wipe (σ.set i x) vs = wipe σ vs
  | v :: vs, h => by
    unfold wipe
    by_cases e : i ∈ vs
    · rw [wipe_set e]
    · have hv : i = v := (List.mem_cons.mp h).resolve_right e
      subst hv
      have hl : ∀ ws, i ∉ ws → wipe (σ.set i x) ws = (wipe σ ws).set i x := fun ws => by
        induction ws with
        | nil => intro _; rfl
        | cons w ws ih =>
          intro hn
          unfold wipe
          rw [ih fun z => hn (List.mem_cons_of_mem _ z), List.set_comm _ _ (fun z => hn (by rw [z]; exact List.mem_cons_self))]
      rw [hl vs e, List.set_set]
section
variable {X : Cx} {K : PySem.W.Frag} {vs : List Nat}
theorem ow_val {s : List Sl} {σ : L2.St} {i : Nat} {d : D} {v : V} (hl : s.length = σ.length) (p : Addr) (h : Ow (s.set i (.val d)) (σ.set i (some v)) p) : Ow s σ p := by
  obtain ⟨j, hj⟩ := h
  by_cases hi : i < s.length
  · rw [gS_set hi] at hj
    by_cases e : j = i
    · rw [if_pos e] at hj; cases adr_own hj
    · rw [if_neg e, List.getElem?_set, if_neg (Ne.symm e)] at hj
      exact ⟨j, hj⟩
  · rw [List.set_eq_of_length_le (by omega), List.set_eq_of_length_le (by omega)] at hj
    exact ⟨j, hj⟩
theorem dg_name {i : Nat} {x : Str} {pos : Pos} (hm : i ∈ vs) (hN : X.N.Nodup) (hi : X.N[i]? = some x) (hx : Loc X.env.scope x) (hK : X.K = K := by rfl) (hf : X.fn x = true ∨ X.env.scope.names.lookup x = some .local := by first | exact .inl rfl | exact .inr rfl | assumption) : DPG X K vs (.Name x pos) (gName i) (dName i) :=
  ⟨hK, pg_name hN hi hx hf, fun a B0 H0 s σ B H d v P Q R e ht k => k _ _ (R.store (sl := .val d) ⟨v, rfl, e⟩ fun p z => (nomatch z)) (wipe_set hm) (fun p => ow_val R.len p) ht⟩
/-- a tuple of targets -/
abbrev DGs := List D → List Sl → (List Sl → Prop) → Prop
def SndGs (K : PySem.W.Frag) (vs : List Nat) (g : TGs) (t : DGs) : Prop := ∀ a B0 H0 s σ B H ds ws (P : List Sl → Prop) (Q : L2.St → Hp → Prop), Rel K a B0 H0 s σ B H → EmbL K a B ds ws → t ds s P →
  (∀ s' σ', Rel K a B0 H0 s' σ' B H → wipe σ' vs = wipe σ vs → (∀ p, Ow s' σ' p → Ow s σ p) → P s' → Q σ' H) → g ws σ H Q
structure DPGs (X : Cx) (K : PySem.W.Frag) (vs : List Nat) (tg : List Expr) (g : TGs) (t : DGs) : Prop where
  k : X.K = K
  pg : PGs X tg g
  sn : SndGs K vs g t
def dgNil : DGs := fun ds s P => match ds with
  | [] => P s
  | _ => False
def dgCons (t : DG) (u : DGs) : DGs := fun ds s P => match ds with
  | d :: r => t d s fun s1 => u r s1 P
  | _ => False
theorem dgs_nil (hK : X.K = K := by rfl) : DPGs X K vs [] gNil dgNil := ⟨hK, pgs_nil, fun a B0 H0 s σ B H ds ws P Q R e ht k => by
  cases ds with
  | nil => rw [e.of_nil]; exact ⟨rfl, k _ _ R rfl (fun _ z => z) ht⟩
  | cons d r => exact ht.elim⟩
theorem dgs_cons {e : Expr} {es : List Expr} {g : TG} {gs : TGs} {t : DG} {u : DGs} (h1 : DPG X K vs e g t) (h2 : DPGs X K vs es gs u) (hs : (assignEach (e :: es) X.env).map (·.2) = assign e X.env :: (assignEach es X.env).map (·.2) := by rfl) : DPGs X K vs (e :: es) (gCons g gs) (dgCons t u) :=
  ⟨h1.k, pgs_cons h1.pg h2.pg hs, fun a B0 H0 s σ B H ds ws P Q R em ht k => by
    cases ds with
    | nil => exact ht.elim
    | cons d r =>
      obtain ⟨w, r', rfl, e1, e2⟩ := em.uncons
      exact ⟨w, r', rfl, h1.sn a B0 H0 s σ B H d w _ _ R e1 ht fun s1 σ1 R1 w1 o1 q1 => h2.sn a B0 H0 s1 σ1 B H r r' _ _ R1 e2 q1 fun s2 σ2 R2 w2 o2 q2 => k _ _ R2 (w2.trans w1) (fun p z => o1 p (o2 p z)) q2⟩⟩
def dgTup (n : Nat) (t : DGs) : DG := fun d s P => match d with
  | .tup ds => ds.length = n ∧ t ds s P
  | _ => False
theorem dg_tup {es : List Expr} {c : Nat} {g : TGs} {t : DGs} {n : Nat} {pos : Pos} (hc : X.calm = true) (h : DPGs X K vs es g t) (hn : (assignEach es X.env).length = n := by rfl) (hst : (assignEach es X.env).findIdx? (·.1) = none := by rfl) : DPG X K vs (.Tuple es c pos) (gTup K n g) (dgTup n t) :=
  ⟨h.k, by have hk := h.k; subst hk; exact pg_tup hc h.pg hn hst, fun a B0 H0 s σ B H d v P Q R em ht k => by
    cases d with
    | tup ds =>
      obtain ⟨p, us, rfl, hp, r⟩ := Emb.tup em
      exact ⟨p, us, rfl, SqT.of (R.gr.bh _ _ hp), by rw [r.length]; exact ht.1, h.sn a B0 H0 s σ B H ds us _ _ R r ht.2 k⟩
    | _ => exact ht.elim⟩
end
section
variable {X : Cx} {K : PySem.W.Frag} {W : WX} {vs : List Nat} {e tg : Expr} {te : TE} {t : DE} {g : TG} {dg : DG} {pos : Pos}
def dAsg (t : DE) (g : DG) : DS := fun D s => t s D.ex fun d s1 => g d s1 D.nx
theorem ds_asg (he : DPE X K W e te t) (hg : DPG X K vs tg g dg) (hs : swapsWithSole [tg] e pos.line X.env = pure false := by rfl) (hw : swappedStores [tg] e X.env = pure none := by rfl)
    (h1 : (assignEach [tg] X.env).map (·.2) = [assign tg X.env] := by rfl) : DPS X K W (.Assign [tg] e pos) (tAsg te g) (dAsg t dg) := ⟨he.k, ps_asg he.pe hg.pg hs hw h1, fun a B0 H0 s σ B H D' D R L ok ht =>
  he.sn a B0 H0 s σ B H _ _ _ R L ht fun d s1 v B1 H1 f em q => hg.sn a B0 H0 s1 σ B1 H1 d v _ _ f.rel em q fun s2 σ2 R2 _ _ q2 => ok.nx _ _ B1 H1 R2 f.stp.bb q2⟩
/-! ### for -/
def dForL (g : DG) (tb : DS) (D : EndsD) : List Dl.D → List Sl → Prop
  | [], s => D.nx s
  | x :: r, s => g x s fun s2 => tb { D with nx := dForL g tb D r, ct := dForL g tb D r, bk := D.nx } s2
def dFor (t : DA) (g : DG) (tb : DS) : DS := fun D s => t s D.ex fun xs s1 => dForL g tb D xs s1
theorem ds_for {iter : Expr} {body : List Stmt} {wi : TI} {td : DA} {ts : TS} {tb : DS} (hp : PassesOwn (model X.prog X.w) X.A X.env X.xe) (hc : X.calm = true) (hi : DPI X K W tg iter wi td) (hg : DPG X K vs tg g dg) (hb : DPSs X K W body ts tb)
    (hs : ∀ x, foldedSetIterable iter X.env x = pure x := by intro _; rfl) : DPS X K W (.For tg iter body [] pos) (tFor wi g ts) (dFor td dg tb) := ⟨hi.k, ps_for hp hc hi.pi hg.pg hb.ps hs, fun a B0 H0 s σ B H D' D R L ok ht =>
  hi.sn a B0 H0 s σ B H _ _ _ R L ht fun xs s1 J B1 H1 f j q => by
    refine ⟨fun i m σ H => ∃ s B, Rel K a B0 H0 s σ B H ∧ Same B1 B ∧ i ≤ xs.length ∧ m = xs.length - i ∧ dForL dg tb D' (xs.drop i) s, ⟨xs.length, s1, B1, f.rel, Same.refl _, Nat.zero_le _, rfl, q⟩, ?_⟩
    rintro i m σ2 H2 ⟨s2, B2, R2, sB, hi', rfl, q2⟩
    by_cases hlt : i < xs.length
    · refine .inr ⟨j.go i B2 H2 sB R2.gr.bh hlt, fun σ' H' => ∃ s B, Rel K a B0 H0 s σ' B H' ∧ Same B1 B ∧ dForL dg tb D' (xs.drop (i + 1)) s, ?_, fun x H3 y => ?_⟩
      · rintro σ' H' ⟨s', B', R', s'', q'⟩
        exact ⟨xs.length - (i + 1), by omega, s', B', R', s'', hlt, rfl, q'⟩
      · obtain ⟨d, hd, B3, g3, em⟩ := j.yld i B2 H2 x H3 sB R2.gr.bh hlt y
        have ed : xs.drop i = d :: xs.drop (i + 1) := by rw [List.drop_eq_getElem_cons hlt]; rw [List.getElem?_eq_getElem hlt] at hd; rw [Option.some.inj hd]
        rw [ed] at q2
        have R3 := R2.pure g3
        have sB3 := sB.trans g3.bb
        refine hg.sn a B0 H0 s2 σ2 B3 H3 d x _ _ R3 em q2 fun s4 σ4 R4 _ _ q4 => ?_
        exact hb.sn a B0 H0 s4 σ4 B3 H3 { D' with nx := dForL dg tb D' (xs.drop (i + 1)), ct := dForL dg tb D' (xs.drop (i + 1)), bk := D'.nx } _ R4 L ⟨fun s' σ' B' H' R' sb z => ⟨s', B', R', sB3.trans sb, z⟩, ok.rt, fun s' σ' B' H' R' sb z => ok.nx s' σ' B' H' R' (f.stp.bb.trans (sB3.trans sb)) z, fun s' σ' B' H' R' sb z => ⟨s', B', R', sB3.trans sb, z⟩, ok.rk, ok.rn⟩ q4
    · refine .inl ⟨j.stop i B2 H2 sB R2.gr.bh (by omega), ?_⟩
      rw [List.drop_eq_nil_of_le (by omega)] at q2
      exact ok.nx s2 σ2 B2 H2 R2 (f.stp.bb.trans sB) q2⟩
end
end Dl
set_option maxRecDepth 100000
set_option maxHeartbeats 2000000
namespace Dl
open PySem PySem.Spec PyProof.Rows L2 Us
/-! ### comprehensions -/
theorem wS_len (s : List Sl) : ∀ vs, (wS s vs).length = s.length
  | [] => rfl
  | v :: vs => by unfold wS; rw [List.length_set, wS_len s vs]
theorem rS_len (s t : List Sl) : ∀ vs, (rS s t vs).length = t.length
  | [] => rfl
  | v :: vs => by unfold rS; rw [List.length_set, rS_len s t vs]
theorem gS_wS (s : List Sl) (j : Nat) : ∀ vs, gS (wS s vs) j = if j ∈ vs then .no else gS s j
  | [] => by simp [wS]
  | v :: vs => by
    unfold wS
    by_cases hv : v < (wS s vs).length
    · rw [gS_set hv, gS_wS s j vs]
      by_cases e : j = v
      · subst e; simp
      · rw [if_neg e]; simp [e]
    · rw [List.set_eq_of_length_le (by omega), gS_wS s j vs]
      by_cases e : j = v
      · subst e
        rw [if_pos (List.mem_cons_self)]
        rw [wS_len] at hv
        split
        · rfl
        · exact gS_out (by omega)
      · simp [e]
theorem gS_rS {s t : List Sl} (hl : s.length = t.length) (j : Nat) : ∀ vs, gS (rS s t vs) j = if j ∈ vs then gS s j else gS t j
  | [] => by simp [rS]
  | v :: vs => by
    unfold rS
    by_cases hv : v < (rS s t vs).length
    · rw [gS_set hv, gS_rS hl j vs]
      by_cases e : j = v
      · subst e; simp
      · rw [if_neg e]; simp [e]
    · rw [List.set_eq_of_length_le (by omega), gS_rS hl j vs]
      by_cases e : j = v
      · subst e
        rw [if_pos (List.mem_cons_self)]
        rw [rS_len] at hv
        split
        · rfl
        · rw [gS_out (by omega), gS_out (by omega)]
      · simp [e]
theorem wipe_in {σ : L2.St} {i : Nat} : ∀ {vs : List Nat}, i ∈ vs → (wipe σ vs)[i]?.join = none
  | v :: vs, h => by
    unfold wipe
    rw [List.getElem?_set]
    by_cases e : v = i
    · subst e
      rw [if_pos rfl]
      split <;> rfl
    · rw [if_neg e]
      exact wipe_in ((List.mem_cons.mp h).resolve_left (Ne.symm e))
/-- none of the slots owns -/
def free (s : List Sl) (vs : List Nat) : Bool := vs.all fun v => !(gS s v).isOwn
section
variable {K : PySem.W.Frag} {a : Addr} {B0 H0 B H B' H' : Hp} {s s' : List Sl} {σ σ' : L2.St} {vs : List Nat}
theorem free_at (h : free s vs = true) {v : Nat} (hv : v ∈ vs) : (gS s v).isOwn = false := by
  have := List.all_eq_true.mp h v hv
  exact nT this
theorem Rel.wipe (R : Rel K a B0 H0 s σ B H) : Rel K a B0 H0 (wS s vs) (L2.wipe σ vs) B H := by
  refine ⟨R.gr, R.h0, R.hand, by rw [wS_len, wipe_length]; exact R.len, fun j => ?_, fun i j p hij hi hj => ?_⟩
  · rw [gS_wS]
    by_cases hj : j ∈ vs
    · rw [if_pos hj]; exact True.intro
    · rw [if_neg hj, wipe_out hj]; exact R.slot j
  · rw [gS_wS] at hi hj
    have ni : i ∉ vs := fun z => by rw [if_pos z] at hi; cases adr_own hi
    have nj : j ∉ vs := fun z => by rw [if_pos z] at hj; cases adr_own hj
    rw [if_neg ni, wipe_out ni] at hi
    rw [if_neg nj, wipe_out nj] at hj
    exact R.sep i j p hij hi hj
theorem ow_wipe {p : Addr} (h : Ow (wS s vs) (L2.wipe σ vs) p) : Ow s σ p := by
  obtain ⟨i, hi⟩ := h
  rw [gS_wS] at hi
  have ni : i ∉ vs := fun z => by rw [if_pos z] at hi; cases adr_own hi
  rw [if_neg ni, wipe_out ni] at hi
  exact ⟨i, hi⟩
theorem wipe_eq {i : Nat} (h : L2.wipe σ' vs = L2.wipe σ vs) (hi : i ∉ vs) : σ'[i]? = σ[i]? := by
  have := congrArg (fun z => z[i]?) h
  simp only [wipe_out hi] at this
  exact this
theorem not_adr {o : Option V} {i : Nat} {p : Addr} (hf : free s vs = true) (hv : i ∈ vs) (h : p ∈ adr (gS s i) o) : False := by
  have := adr_own h
  rw [free_at hf hv] at this
  cases this
theorem ow_back {p : Addr} (hf : free s vs = true) (hw : L2.wipe σ' vs = L2.wipe σ vs) (hl : s.length = s'.length) (h : Ow (rS s s' vs) σ p) : Ow s' σ' p := by
  obtain ⟨i, hi⟩ := h
  rw [gS_rS hl] at hi
  have ni : i ∉ vs := fun z => by rw [if_pos z] at hi; exact not_adr hf z hi
  rw [if_neg ni, ← wipe_eq hw ni] at hi
  exact ⟨i, hi⟩
theorem Rel.back (R : Rel K a B0 H0 s σ B H) (R' : Rel K a B0 H0 s' σ' B' H') (sb : Same B B') (hf : free s vs = true) (hw : L2.wipe σ' vs = L2.wipe σ vs) : Rel K a B0 H0 (rS s s' vs) σ B' H' := by
  have hσ : σ'.length = σ.length := by
    have := congrArg List.length hw
    rw [wipe_length, wipe_length] at this
    exact this
  have hl : s.length = s'.length := by rw [R.len, R'.len, hσ]
  refine ⟨R'.gr, R'.h0, R'.hand, by rw [rS_len, ← hl]; exact R.len, fun j => ?_, fun i j p hij hi hj => ?_⟩
  · rw [gS_rS hl]
    by_cases hj : j ∈ vs
    · rw [if_pos hj]
      have h := R.slot j
      have hn := free_at hf hj
      cases q : gS s j with
      | no => exact True.intro
      | val d =>
        rw [q] at h
        obtain ⟨v, e, hv⟩ := h
        exact ⟨v, e, hv.mono sb⟩
      | lck ks ds =>
        rw [q] at h
        obtain ⟨p, kvs, od, e, h1, h2, h3⟩ := h
        exact ⟨p, kvs, od, e, sb _ _ h1, h2, h3.mono sb⟩
      | rd ks ds =>
        rw [q] at h
        obtain ⟨p, kvs, e, h1, h2, h3⟩ := h
        exact ⟨p, kvs, e, h1.imp (sb _ _) (fun ⟨o, h⟩ => ⟨o, sb _ _ h⟩), h2, h3.mono sb⟩
      | own xs => rw [q] at hn; cases hn
      | ownK ks ds => rw [q] at hn; cases hn
      | ownN c ps xss => rw [q] at hn; cases hn
    · rw [if_neg hj, ← wipe_eq hw hj]
      exact R'.slot j
  · rw [gS_rS hl] at hi hj
    have ni : i ∉ vs := fun z => by rw [if_pos z] at hi; exact not_adr hf z hi
    have nj : j ∉ vs := fun z => by rw [if_pos z] at hj; exact not_adr hf z hj
    rw [if_neg ni, ← wipe_eq hw ni] at hi
    rw [if_neg nj, ← wipe_eq hw nj] at hj
    exact R'.sep i j p hij hi hj
end
abbrev EXn : EX := fun _ _ => False
abbrev WXn : WX := fun _ _ _ _ => False
theorem lkn {K : PySem.W.Frag} {a : Addr} {B0 H0 : Hp} {W : WX} : Lk W K a B0 H0 EXn := fun _ _ _ _ _ _ _ _ _ h => h.elim
def dLcL (g : DG) (tt : DT) (te : DE) (vs : List Nat) : List D → List D → List Sl → (List D → List Sl → Prop) → Prop
  | [], acc, s, P => P acc s
  | x :: r, acc, s, P => free s vs = true ∧ g x (wS s vs) fun s2 => tt s2 EXn fun b s3 => cnd b (te s3 EXn fun d s4 => acc.length < sizeLine ∧ dLcL g tt te vs r (acc ++ [d]) (rS s s4 vs) P) (dLcL g tt te vs r acc (rS s s3 vs) P)
def dLc (t : DA) (g : DG) (tt : DT) (te : DE) (vs : List Nat) : DA := fun s E P => t s E fun xs s1 => dLcL g tt te vs xs [] s1 P
section
variable {X : Cx} {K : PySem.W.Frag} {W W' : WX}
theorem snd_lc {wi : TI} {td : DA} {g : TG} {dg : DG} {tt : TT} {dt : DT} {te : TE} {de : DE} {vs : List Nat} (hi : SndI K W wi td) (hg : SndG K vs g dg) (ht : Snd K W' RT tt dt) (he : Snd K W' (RE K) te de) : Snd K W (RN K) (tLc wi g tt te vs) (dLc td dg dt de vs) := fun a B0 H0 s σ B H E P Q R L hr k =>
  hi a B0 H0 s σ B H E _ _ R L hr fun xs s1 J B1 H1 f j q => by
    intro Dp hD
    have hD0 : H Dp = none := f.stp.fresh hD
    have hDo : ¬ Ow s1 σ Dp := f.rel.notOw hD
    have hDa : Dp ≠ a := fun z => f.rel.hand.ne (z ▸ hD)
    refine ⟨fun i m H' => ∃ s' B' acc us, Rel K a B0 H0 s' σ B' H' ∧ Same B1 B' ∧ H' Dp = some (.lst us) ∧ B' Dp = none ∧ EmbL K a B' acc us ∧ (∀ p, Ow s' σ p → Ow s1 σ p) ∧ Stp (fun p => (p = a ∨ Ow s1 σ p) ∨ p = Dp) B1 H1 B' H' ∧ i ≤ xs.length ∧ m = xs.length - i ∧ dLcL dg dt de vs (xs.drop i) acc s' P, ⟨xs.length, s1, B1, [], [], f.rel.pure (Stp.cell f.rel.gr.bh hD), Same.refl _, upd_same, bfresh f.rel.gr.bh hD, .nil, fun _ z => z, Stp.cell f.rel.gr.bh hD, Nat.zero_le _, rfl, q⟩, ?_⟩
    rintro i m H2 ⟨s2, B2, acc, us, R2, sB, hDl, hDb, em, o2, st, hi', rfl, q2⟩
    by_cases hlt : i < xs.length
    · refine .inr ⟨j.go i B2 H2 sB R2.gr.bh hlt, fun H' => ∃ s' B' acc us, Rel K a B0 H0 s' σ B' H' ∧ Same B1 B' ∧ H' Dp = some (.lst us) ∧ B' Dp = none ∧ EmbL K a B' acc us ∧ (∀ p, Ow s' σ p → Ow s1 σ p) ∧ Stp (fun p => (p = a ∨ Ow s1 σ p) ∨ p = Dp) B1 H1 B' H' ∧ dLcL dg dt de vs (xs.drop (i + 1)) acc s' P, ?_, fun x H3 y => ?_⟩
      · rintro H' ⟨s', B', acc', us', R', s'', h1, h2, h3, h4, h5, q'⟩
        exact ⟨xs.length - (i + 1), by omega, s', B', acc', us', R', s'', h1, h2, h3, h4, h5, hlt, rfl, q'⟩
      · obtain ⟨d, hd, B3, g3, emd⟩ := j.yld i B2 H2 x H3 sB R2.gr.bh hlt y
        have ed : xs.drop i = d :: xs.drop (i + 1) := by rw [List.drop_eq_getElem_cons hlt]; rw [List.getElem?_eq_getElem hlt] at hd; rw [Option.some.inj hd]
        rw [ed] at q2
        obtain ⟨fr, q2⟩ := q2
        have R3 := R2.pure g3
        have sB3 := sB.trans g3.bb
        have hDl3 := g3.keep _ _ id hDl
        have hDb3 : B3 Dp = none := (g3.old Dp id (by rw [hDl]; exact fun z => nomatch z)).trans hDb
        have st3 := st.trans g3.up
        have emL := em.mono g3.bb
        refine hg a B0 H0 (wS s2 vs) (wipe σ vs) B3 H3 d x _ _ R3.wipe emd q2 fun s4 σ4 R4 w4 o4 q4 => ?_
        have w4' : wipe σ4 vs = wipe σ vs := by
          have wi2 : ∀ us : List Nat, (∀ v ∈ us, v ∈ vs) → wipe (wipe σ us) vs = wipe σ vs := fun us => by
            induction us with
            | nil => intro _; rfl
            | cons v us ih =>
              intro h
              show wipe ((wipe σ us).set v none) vs = wipe σ vs
              rw [wipe_set (h v List.mem_cons_self)]
              exact ih fun w hw => h w (List.mem_cons_of_mem _ hw)
          rw [w4, wi2 vs fun v h => h]
        have own4 : ∀ p, Ow s4 σ4 p → Ow s1 σ p := fun p z => o2 p (ow_wipe (o4 p z))
        have nD : ∀ p, (p = a ∨ Ow s1 σ p) → p ≠ Dp := fun p z e => by
          subst e
          exact z.elim (fun z => hDa z) hDo
        refine ⟨w4', ht a B0 H0 s4 σ4 B3 H3 _ _ _ R4 lkn q4 fun c s5 c' B5 H5 f5 e5 q5 => ?_⟩
        cases e5
        have sB5 := sB3.trans f5.stp.bb
        have keepD : ∀ {s6 : List Sl} {B6 H6 : Hp}, Aft K a B0 H0 σ4 s4 B3 H3 s6 B6 H6 → H6 Dp = some (.lst us) ∧ B6 Dp = none := fun {s6 B6 H6} x => by
          have hw : ¬ (Dp = a ∨ Ow s4 σ4 Dp) := fun z => z.elim (fun z => hDa z) fun z => hDo (own4 _ z)
          exact ⟨x.stp.keep _ _ hw hDl3, (x.stp.old Dp hw (by rw [hDl3]; exact fun z => nomatch z)).trans hDb3⟩
        have stA : ∀ {s6 : List Sl} {B6 H6 : Hp}, Aft K a B0 H0 σ4 s4 B3 H3 s6 B6 H6 → Stp (fun p => (p = a ∨ Ow s1 σ p) ∨ p = Dp) B1 H1 B6 H6 := fun x => st3.trans (x.stp.mono fun b _ w => w.elim (fun z => .inl (.inl z)) fun z => .inl (.inr (own4 _ z)))
        have hl6 : ∀ {s6 : List Sl} {B6 H6 : Hp}, Rel K a B0 H0 s6 σ4 B6 H6 → s2.length = s6.length := fun R6 => by
          have e1 := congrArg List.length w4'
          rw [wipe_length, wipe_length] at e1
          rw [R2.len, R6.len, e1]
        have owA : ∀ {s6 : List Sl} {B6 H6 : Hp}, Aft K a B0 H0 σ4 s4 B3 H3 s6 B6 H6 → ∀ p, Ow (rS s2 s6 vs) σ p → Ow s1 σ p := fun x p z => own4 p (x.sub p (ow_back fr w4' (hl6 x.rel) z))
        cases c with
        | false =>
          obtain ⟨k1, k2⟩ := keepD f5
          exact iteF ⟨_, B5, acc, us, Rel.back R3 f5.rel f5.stp.bb fr w4', sB5, k1, k2, emL.mono f5.stp.bb, owA f5, stA f5, q5⟩
        | true =>
          refine iteT (he a B0 H0 s5 σ4 B5 H5 _ _ _ f5.rel lkn q5 fun y s6 v B6 H6 f6 e6 q6 => ?_)
          have f46 := f5.trans f6
          obtain ⟨k1, k2⟩ := keepD f46
          have R6 : Rel K a B0 H0 (rS s2 s6 vs) σ B6 H6 := Rel.back R3 f46.rel f46.stp.bb fr w4'
          have emL6 := emL.mono f46.stp.bb
          refine ⟨us, k1, by rw [emL.length]; exact q6.1, _, B6, acc ++ [y], us ++ [v], ?_, sB3.trans f46.stp.bb, upd_same, k2, emL6.append (.cons e6 .nil), owA f46, (stA f46).trans (Stp.set R6.gr.bh k2 (.inr rfl)), q6.2⟩
          have gD : Stp (Isa Dp) B6 H6 B6 (upd H6 Dp (.lst (us ++ [v]))) := Stp.set R6.gr.bh k2 rfl
          have hDn : ¬ Ow (rS s2 s6 vs) σ Dp := fun z => hDo (owA f46 _ z)
          have h0D : H0 Dp = none := f.rel.gr.fresh hD
          exact R6.elsewhere gD (fun q w => by rw [show q = Dp from w]; exact hDn) (fun q w _ => .inr (by rw [show q = Dp from w]; exact h0D)) (R6.hand.mono gD (fun z => hDa (Eq.symm z)))
    · refine .inl ⟨j.stop i B2 H2 sB R2.gr.bh (by omega), ?_⟩
      rw [List.drop_eq_nil_of_le (by omega)] at q2
      have f2 : Aft K a B0 H0 σ s1 B1 H1 s2 B2 H2 := ⟨R2, st.unsee hD, o2⟩
      exact k acc s2 _ B2 H2 (f.trans f2) ⟨Dp, us, rfl, hDl, hDb, hD0, em⟩ q2
theorem dn_lc {elt tg iter : Expr} {ifs : List Expr} {scope : Scope} {own : List (Str × Nat)} {pos : Pos} {wi : TI} {td : DA} {g : TG} {dg : DG} {tt : TT} {dt : DT} {te : TE} {de : DE} (hc : X.calm = true) (hN : X.N.Nodup) (hi : DPI X K W tg iter wi td) (ok : BlkOk X.N X.env.scope scope own)
    (hg : ∀ (s : Shared) (H : Hp) (C : Addr) (cl : List (Str × Addr)) (fp : List Addr), DPG (X.blk s H scope (compEnvC scope cl C X.env) fp) K (own.map (·.2)) tg g dg) (ht : ∀ (s : Shared) (H : Hp) (C : Addr) (cl : List (Str × Addr)) (fp : List Addr), PTs (X.blk s H scope (compEnvC scope cl C X.env) fp) ifs tt ∧ Snd K WXn RT tt dt)
    (he : ∀ (s : Shared) (H : Hp) (C : Addr) (cl : List (Str × Addr)) (fp : List Addr), DPE (X.blk s H scope (compEnvC scope cl C X.env) fp) K WXn elt te de) (hs : ∀ x, foldedSetIterable iter X.env x = pure x := by intro _; rfl) (hsn : SndG K (own.map (·.2)) g dg) (hsn' : Snd K WXn RT tt dt) (hsn'' : Snd K WXn (RE K) te de) :
    DPN X K W (.ListComp elt [⟨tg, iter, ifs, 0⟩] scope pos) (tLc wi g tt te (own.map (·.2))) (dLc td dg dt de (own.map (·.2))) :=
  ⟨hi.k, pe_lc hc hN hi.pi ok (fun s H C cl fp => (hg s H C cl fp).pg) (fun s H C cl fp => (ht s H C cl fp).1) (fun s H C cl fp => (he s H C cl fp).pe) hs, snd_lc hi.sn hsn hsn' hsn''⟩
end
end Dl
set_option maxRecDepth 100000
set_option maxHeartbeats 2000000
namespace Dl
open PySem PySem.Spec PyProof.Rows L2 Us
structure DPTs (X : Cx) (K : PySem.W.Frag) (W : WX) (es : List Expr) (tt : TT) (t : DT) : Prop where
  k : X.K = K
  pt : PTs X es tt
  sn : Snd K W RT tt t
def dYes : DT := fun s _ P => P true s
section
variable {X : Cx} {K : PySem.W.Frag} {W : WX}
theorem dts_nil (hK : X.K = K := by rfl) : DPTs X K W [] tYes dYes := ⟨hK, pts_nil, fun a B0 H0 s σ B H E P Q R L ht k => k true s true B H (.refl R) rfl ht⟩
theorem dts_one {c : Expr} {tt : TT} {t : DT} (h : DPT X K W c tt t) : DPTs X K W [c] tt t := ⟨h.k, pts_one h.pe, h.sn⟩
theorem dn_lcm {elt tg iter : Expr} {ifs : List Expr} {scope : Scope} {own : List (Str × Nat)} {pos : Pos} {wi : TI} {td : DA} {g : TG} {dg : DG} {tt : TT} {dt : DT} {te : TE} {de : DE} (hc : X.calm = true) (hN : X.N.Nodup) (hi : DPI X K W tg iter wi td) (ok : BlkOk X.N X.env.scope scope own)
    (hg : ∀ (s : Shared) (H : Hp) (C : Addr) (cl : List (Str × Addr)) (fp : List Addr), DPG (X.blk s H scope (compEnvC scope cl C X.env) fp) K (own.map (·.2)) tg g dg) (ht : ∀ (s : Shared) (H : Hp) (C : Addr) (cl : List (Str × Addr)) (fp : List Addr), DPTs (X.blk s H scope (compEnvC scope cl C X.env) fp) K WXn ifs tt dt)
    (he : ∀ (s : Shared) (H : Hp) (C : Addr) (cl : List (Str × Addr)) (fp : List Addr), DPE (X.blk s H scope (compEnvC scope cl C X.env) fp) K WXn elt te de) (hs : ∀ x, foldedSetIterable iter X.env x = pure x := by intro _; rfl) :
    DPN X K W (.ListComp elt [⟨tg, iter, ifs, 0⟩] scope pos) (tLc wi g tt te (own.map (·.2))) (dLc td dg dt de (own.map (·.2))) :=
  ⟨hi.k, pe_lc hc hN hi.pi ok (fun s H C cl fp => (hg s H C cl fp).pg) (fun s H C cl fp => (ht s H C cl fp).pt) (fun s H C cl fp => (he s H C cl fp).pe) hs, snd_lc hi.sn (hg {} (fun _ => none) 0 [] []).sn (ht {} (fun _ => none) 0 [] []).sn (he {} (fun _ => none) 0 [] []).sn⟩
/-- x = [.. for ..] -/
theorem ds_setLc {i : Nat} {y : Str} {py : Pos} {elt tg iter : Expr} {ifs : List Expr} {scope : Scope} {own : List (Str × Nat)} {pos spos : Pos} {wi : TI} {td : DA} {g : TG} {dg : DG} {tt : TT} {dt : DT} {te : TE} {de : DE} (hc : X.calm = true) (hN : X.N.Nodup) (hy : X.N[i]? = some y) (hyl : X.env.scope.names.lookup y = some .local)
    (hsw : swapsWith (.ListComp elt [⟨tg, iter, ifs, 0⟩] scope pos) (some (.Name y py)) spos.line X.env = pure true) (hi : DPI X K W tg iter wi td) (ok : BlkOk X.N X.env.scope scope own)
    (hg : ∀ (s : Shared) (H : Hp) (C : Addr) (cl : List (Str × Addr)) (fp : List Addr), DPG (X.blk s H scope (compEnvC scope cl C X.env) fp) K (own.map (·.2)) tg g dg) (ht : ∀ (s : Shared) (H : Hp) (C : Addr) (cl : List (Str × Addr)) (fp : List Addr), DPTs (X.blk s H scope (compEnvC scope cl C X.env) fp) K WXn ifs tt dt)
    (he : ∀ (s : Shared) (H : Hp) (C : Addr) (cl : List (Str × Addr)) (fp : List Addr), DPE (X.blk s H scope (compEnvC scope cl C X.env) fp) K WXn elt te de) (hs : ∀ x, foldedSetIterable iter X.env x = pure x := by intro _; rfl) :
    DPS X K W (.Assign [.Name y py] (.ListComp elt [⟨tg, iter, ifs, 0⟩] scope pos) spos) (tAsg (tLc wi g tt te (own.map (·.2))) (gName i)) (dSetN i (dLc td dg dt de (own.map (·.2)))) :=
  ⟨hi.k, ps_setLc hc hN hy hyl hsw hi.pi ok (fun s H C cl fp => (hg s H C cl fp).pg) (fun s H C cl fp => (ht s H C cl fp).pt) (fun s H C cl fp => (he s H C cl fp).pe) hs, snd_setN (snd_lc hi.sn (hg {} (fun _ => none) 0 [] []).sn (ht {} (fun _ => none) 0 [] []).sn (he {} (fun _ => none) 0 [] []).sn)⟩
end
/-! ### defs -/
abbrev DSp := List D → (D → Prop) → (Exc → Prop) → Prop
def toSp (K : PySem.W.Frag) (dsp : DSp) : Sp := fun vs H Q E => ∃ a B ds P Xx, Same B H ∧ HandOk B H a ∧ EmbL K a B ds vs ∧ dsp ds P Xx ∧
  (∀ d, P d → ∀ B' H' v, Stp (Isa a) B H B' H' → HandOk B' H' a → Emb K a B' d v → Q v H') ∧
  (∀ x, Xx x → ∀ B' H' cls dd, Stp (Isa a) B H B' H' → HandOk B' H' a → XEmb K a B' H' x cls dd → E cls dd H')
def dCall0 (dsp : DSp) (t : DA) : DE := fun s E P => t s E fun ds s1 => dsp ds (fun d => P d s1) (fun _ => False)
def dCallX (dsp : DSp) (t : DA) : DE := fun s E P => t s E fun ds s1 => dsp ds (fun d => P d s1) (fun x => E x s1)
section
variable {X : Cx} {K : PySem.W.Frag} {W : WX} {CX : CXT} {k : Nat} {x : Str} {ps : List Str} {dsp : DSp} {E : XK} {p pos : Pos} {e : Expr} {es : List Expr} {ta : TA} {td : DA}
theorem snd_call0 {E : XK} (h : Snd K W (RA K) ta td) : Snd K W (RE K) (tCall (toSp K dsp) [] E ta) (dCall0 dsp td) := fun a B0 H0 s σ B H E' P Q R L ht kk =>
  h a B0 H0 s σ B H E' _ _ R L ht fun ds s1 vs B1 H1 f em q => by
    rw [List.append_nil]
    exact ⟨a, B1, ds, _, _, f.rel.gr.bh, f.rel.hand, em, q, fun d pd B2 H2 v g hh e2 => kk d s1 v B2 H2 (f.trans (.call f.rel g hh)) e2 pd, fun _ z => z.elim⟩
theorem snd_callX (h : Snd K W (RA K) ta td) : Snd K W (RE K) (tCallS (toSp K dsp) (WE W) ta) (dCallX dsp td) := fun a B0 H0 s σ B H E' P Q R L ht kk =>
  h a B0 H0 s σ B H E' _ _ R L ht fun ds s1 vs B1 H1 f em q =>
    ⟨a, B1, ds, _, _, f.rel.gr.bh, f.rel.hand, em, q, fun d pd B2 H2 v g hh e2 => kk d s1 v B2 H2 (f.trans (.call f.rel g hh)) e2 pd, fun x z B2 H2 cls dd g hh ex => L x s1 σ B2 H2 cls dd (f.trans (.call f.rel g hh)).rel ex z⟩
theorem de_call0 (Df : DefOk X.prog X.w X.K X.mg X.base CX0 k x ps (toSp K dsp)) (hr : Room k X.A) (ha : DPA X K W (e :: es) ta td) (hg : Gl X x := by rfl)
    (hdb : (x == ("__debug__" : Str)) = false := by decide) (he : starEach (e :: es) X.env = (false, eval e X.env) :: starEach es X.env := by rfl) (hpl : (backTo pos (starEach es X.env)).any (·.1) = false := by rfl) :
    DPE X K W (.Call (.Name x p) (e :: es) [] pos) (tCall (toSp K dsp) [] E0 ta) (dCall0 dsp td) := ⟨ha.k, pe_callD Df hr hg pass0 ha.pe hdb he hpl, snd_call0 ha.sn⟩
/-- a call of a def that may raise, and does not here -/
theorem de_callN (Df : DefOk X.prog X.w X.K X.mg X.base (L2.CX X.prog X.w) k x ps (toSp K dsp)) (hr : Room k X.A) (ha : DPA X K W (e :: es) ta td) (hg : Gl X x := by rfl)
    (hdb : (x == ("__debug__" : Str)) = false := by decide) (he : starEach (e :: es) X.env = (false, eval e X.env) :: starEach es X.env := by rfl) (hpl : (backTo pos (starEach es X.env)).any (·.1) = false := by rfl) :
    DPE X K W (.Call (.Name x p) (e :: es) [] pos) (tCall (toSp K dsp) [] (fun _ _ _ => False) ta) (dCall0 dsp td) := ⟨ha.k, pe_callD Df hr hg passNo ha.pe hdb he hpl, snd_call0 ha.sn⟩
theorem de_callX (Df : DefOk X.prog X.w X.K X.mg X.base (L2.CX X.prog X.w) k x ps (toSp K dsp)) (hr : Room k X.A) (tk : Takes X W) (ha : DPA X K W (e :: es) ta td) (hg : Gl X x := by rfl)
    (hdb : (x == ("__debug__" : Str)) = false := by decide) (he : starEach (e :: es) X.env = (false, eval e X.env) :: starEach es X.env := by rfl) (hpl : (backTo pos (starEach es X.env)).any (·.1) = false := by rfl) :
    DPE X K W (.Call (.Name x p) (e :: es) [] pos) (tCallS (toSp K dsp) (WE W) ta) (dCallX dsp td) := ⟨ha.k, pe_callDS Df hr hg (fun σ => passAt tk σ) ha.pe hdb he hpl, snd_callX ha.sn⟩
end
def startD (n : Nat) (ds : List D) : List Sl := ds.map .val ++ List.replicate (n - ds.length) .no
theorem startD_slot {K : PySem.W.Frag} {a : Addr} {B H H0 : Hp} {m : Nat} : ∀ {ds : List D} {vs : List V}, EmbL K a B ds vs → ∀ i, SlR K a B H H0 (gS (ds.map .val ++ List.replicate m .no) i) ((vs.map some ++ List.replicate m none)[i]?.join)
  | [], vs, h, i => by
    rw [h.of_nil]
    rw [List.map_nil, List.nil_append, gS_get, List.getElem?_replicate]
    split <;> exact True.intro
  | d :: ds, vs, h, 0 => by
    obtain ⟨u, r, rfl, h1, h2⟩ := h.uncons
    exact ⟨u, rfl, h1⟩
  | d :: ds, vs, h, i + 1 => by
    obtain ⟨u, r, rfl, h1, h2⟩ := h.uncons
    have := startD_slot (H := H) (H0 := H0) (m := m) h2 i
    simpa [gS] using this
theorem startD_own (n : Nat) : ∀ (ds : List D) (i : Nat), (gS (ds.map Sl.val ++ List.replicate n .no) i).isOwn = false
  | [], i => by
    rw [List.map_nil, List.nil_append, gS_get, List.getElem?_replicate]
    split <;> rfl
  | d :: ds, 0 => rfl
  | d :: ds, i + 1 => by simpa [gS] using startD_own n ds i
theorem start_rel {K : PySem.W.Frag} {a : Addr} {B H : Hp} {N : List Str} {ds : List D} {vs : List V} (s : Same B H) (h : HandOk B H a) (e : EmbL K a B ds vs) : Rel K a B H (startD N.length ds) (L2.start N vs) B H := by
  have hl := e.length
  refine ⟨Stp.refl s, h.ne, h, by simp [startD, L2.start, hl], fun i => ?_, fun i j p _ hi => ?_⟩
  · unfold startD L2.start
    rw [hl]
    exact startD_slot e i
  · have hi := adr_own hi
    unfold startD at hi
    rw [startD_own] at hi
    cases hi
section
variable {P : Program} {w : World} {K : PySem.W.Frag} {mg : Str → Option Value} {base : Heap}
/-- a def that lets no exception out -/
theorem _root_.Us.DefAt.dl {x : Str} {st : Stmt} {N ps : List Str} {k : Nat} {dsp : DSp} (F : DefAt K mg x st) (S : FnScope N ps (defScope st))
    (hb : ∀ (kV doc pm : Value) (an : Option Addr) (cdv ct : Value) (us : List Value), us.length = ps.length → bindArgs (PySem.W.fnOf x x (defArgs st) (defBody st) (defScope st) .none kV doc pm an cdv ct) ⟨us, []⟩ = pure (ps.zip us))
    (len : ∀ ds Q E, dsp ds Q E → ds.length = ps.length)
    (body : ∀ (f : Addr) (cdv : Value) (A : Around) (outer : List Env) (s : Shared) (H : Hp) (E : XK), Room k (A.deeper (envOfC x (defScope st) s.heap.objs.size f cdv)) →
      ∃ ts t, DPSs (cxOf CX0 P w K mg base N x (defScope st) f cdv A outer s H E).nox K WXn (defBody st) ts t ∧ ∀ ds Q Xx, dsp ds Q Xx → t { nx := fun _ => Q .non, rt := Q } (startD N.length ds)) : DefOk P w K mg base CX0 (k + 1) x ps (toSp K dsp) := by
  refine F.ok S hb (fun vs H Q E h => ?_) fun f cdv A outer s H vs Q E hr h => ?_
  · obtain ⟨a, B, ds, P', Xx, _, _, e, h, _⟩ := h
    rw [e.length]
    exact len _ _ _ h
  · obtain ⟨a, B, ds, P', Xx, hs, hh, e, h, k1, k2⟩ := h
    obtain ⟨ts, t, hd, ht⟩ := body f cdv A outer s H E hr
    refine ⟨ts, PSs.nox hd.ps, ?_⟩
    exact hd.sn a B H _ _ B H { nx := fun _ => P' .non, rt := P' } _ (start_rel hs hh e) lkn ⟨fun s' σ' B' H' R' _ z => k1 _ z B' H' _ R'.gr R'.hand emb_non, fun d v B' H' g hh' e' z => k1 d z B' H' v g hh' e', fun _ _ _ _ _ _ z => z.elim, fun _ _ _ _ _ _ z => z.elim, fun _ _ _ _ _ _ _ z => z.elim, fun _ _ _ _ _ _ _ z => z.elim⟩ (ht ds P' Xx h)
/-- a def that may raise -/
theorem _root_.Us.DefAt.dlX {x : Str} {st : Stmt} {N ps : List Str} {k : Nat} {dsp : DSp} (F : DefAt K mg x st) (S : FnScope N ps (defScope st))
    (hb : ∀ (kV doc pm : Value) (an : Option Addr) (cdv ct : Value) (us : List Value), us.length = ps.length → bindArgs (PySem.W.fnOf x x (defArgs st) (defBody st) (defScope st) .none kV doc pm an cdv ct) ⟨us, []⟩ = pure (ps.zip us))
    (len : ∀ ds Q E, dsp ds Q E → ds.length = ps.length)
    (body : ∀ (f : Addr) (cdv : Value) (A : Around) (outer : List Env) (s : Shared) (H : Hp) (E : XK), Room k (A.deeper (envOfC x (defScope st) s.heap.objs.size f cdv)) →
      ∃ ts t, DPSs (cxOf (L2.CX P w) P w K mg base N x (defScope st) f cdv A outer s H E) K (fun cls d _ H => E cls d H) (defBody st) ts t ∧ ∀ ds Q Xx, dsp ds Q Xx → t { nx := fun _ => Q .non, rt := Q, ex := fun x _ => Xx x } (startD N.length ds)) : DefOk P w K mg base (L2.CX P w) (k + 1) x ps (toSp K dsp) := by
  refine F.ok S hb (fun vs H Q E h => ?_) fun f cdv A outer s H vs Q E hr h => ?_
  · obtain ⟨a, B, ds, P', Xx, _, _, e, h, _⟩ := h
    rw [e.length]
    exact len _ _ _ h
  · obtain ⟨a, B, ds, P', Xx, hs, hh, e, h, k1, k2⟩ := h
    obtain ⟨ts, t, hd, ht⟩ := body f cdv A outer s H E hr
    refine ⟨ts, hd.ps, ?_⟩
    exact hd.sn a B H _ _ B H { nx := fun _ => P' .non, rt := P', ex := fun x _ => Xx x } _ (start_rel hs hh e) (fun x s' σ' B' H' cls dd R' ex z => k2 x z B' H' cls dd R'.gr R'.hand ex) ⟨fun s' σ' B' H' R' _ z => k1 _ z B' H' _ R'.gr R'.hand emb_non, fun d v B' H' g hh' e' z => k1 d z B' H' v g hh' e', fun _ _ _ _ _ _ z => z.elim, fun _ _ _ _ _ _ z => z.elim, fun _ _ _ _ _ _ _ z => z.elim, fun _ _ _ _ _ _ _ z => z.elim⟩ (ht ds P' Xx h)
end
/-! ### raise -/
section
variable {X : Cx} {K : PySem.W.Frag} {W : WX}
def dRaise0 (c : Str) : DS := fun D s => D.ex ⟨c, [], []⟩ s
theorem ds_raise0 {x : Str} {p pos pos' : Pos} (hK : X.K = K) (hc : X.calm = true) (tk : Takes X W) (T : ExcOk X.K X.mg x (He.ga X.K x)) (hg : Gl X x := by rfl) (hdb : (x == ("__debug__" : Str)) = false := by decide) :
    DPS X K W (.Raise (some (.Call (.Name x p) [] [] pos)) none pos') (fun _ σ H => (fun _ H Q => Q (.ref (He.ga X.K x)) none H : L2.St → Hp → XK → Prop) σ H fun cls d H' => W cls d σ H') (dRaise0 x) :=
  ⟨hK, ps_raise hc tk (pmk_x T hg hdb), fun a B0 H0 s σ B H D' D R L ok ht => L _ s σ B H _ _ R ⟨by rw [hK], .inl ⟨rfl, rfl, rfl⟩⟩ ht⟩
def dRaise1 (c F : Str) (t : DE) : DS := fun D s => t s D.ex fun d s1 => D.ex ⟨c, [F], [d]⟩ s1
theorem ds_raise1 {d : SupT} {te : TE} {td : DE} {x : Str} {e : Expr} {p pos pos' : Pos} {k : Nat} (ex : d.x = x) (S : SupOk X.prog X.K d) (gC : X.mg x = some (.ref (He.ga X.K x))) (hr : Room (k + 2) X.A) (hc : X.calm = true) (tk : Takes X W) (he : DPE X K W e te td)
    (hg : Gl X x := by rfl) (hdb : (x == ("__debug__" : Str)) = false := by decide) (hs : starEach [e] X.env = (false, eval e X.env) :: starEach [] X.env := by rfl) :
    DPS X K W (.Raise (some (.Call (.Name x p) [e] [] pos)) none pos') (fun _ σ H => tSup (He.ga X.K x) d.F te σ H fun cls d H' => W cls d σ H') (dRaise1 x d.F td) :=
  ⟨he.k, ps_raise hc tk (pmk_supX ex S gC hr hg he.pe hdb hs), fun a B0 H0 s σ B H D' D R L ok ht =>
    he.sn a B0 H0 s σ B H _ _ _ R L ht fun y s1 v B1 H1 f em q => i_sup fun dd hdd => by
      have f2 := f.trans (.pure f.rel (Stp.cell (o := .xd [(d.F, v)]) f.rel.gr.bh hdd))
      exact L _ s1 σ _ _ _ _ f2.rel ⟨by rw [he.k], .inr ⟨dd, _, rfl, upd_same, rfl, .cons em .nil⟩⟩ q⟩
end
end Dl
set_option maxRecDepth 100000
set_option maxHeartbeats 2000000
namespace Dl
open PySem PySem.Spec PyProof.Rows L2 Us
/-! ### numbers, texts -/
def i2 (g : Int → Int → D) : D → D → (D → Prop) → Prop := fun x y P => match x, y with
  | .int i, .int j => P (g i j)
  | _, _ => False
def i2c (C : Int → Int → Prop) (g : Int → Int → D) : D → D → (D → Prop) → Prop := fun x y P => match x, y with
  | .int i, .int j => C i j ∧ P (g i j)
  | _, _ => False
section
variable {K : PySem.W.Frag}
theorem l_i2 {g : Int → Int → V} {gd : Int → Int → D} (h : ∀ a B i j, Emb K a B (gd i j) (g i j)) : LOp K (rI0 g) (i2 gd) := fun a B H x y u v P Q s ex ey r k => by
  unfold i2 at r
  split at r
  · cases Emb.int ex; cases Emb.int ey
    exact ⟨_, _, rfl, rfl, k _ B H _ (Stp.refl s) (h a B _ _) r⟩
  · exact r.elim
theorem l_i2c {C : Int → Int → Prop} {g : Int → Int → V} {gd : Int → Int → D} (h : ∀ a B i j, Emb K a B (gd i j) (g i j)) : LOp K (rI C g) (i2c C gd) := fun a B H x y u v P Q s ex ey r k => by
  unfold i2c at r
  split at r
  · cases Emb.int ex; cases Emb.int ey
    exact ⟨_, _, rfl, rfl, r.1, k _ B H _ (Stp.refl s) (h a B _ _) r.2⟩
  · exact r.elim
theorem l_int {f : Int → Int → Int} : LOp K (rI0 fun i j => .int (f i j)) (i2 fun i j => .int (f i j)) := l_i2 fun _ _ _ _ => emb_int
theorem l_bool {f : Int → Int → Bool} : LOp K (rI0 fun i j => .bl (f i j)) (i2 fun i j => .bl (f i j)) := l_i2 fun _ _ _ _ => emb_bl
theorem l_intC {C : Int → Int → Prop} {f : Int → Int → Int} : LOp K (rI C fun i j => .int (f i j)) (i2c C fun i j => .int (f i j)) := l_i2c fun _ _ _ _ => emb_int
def neg1 : D → (D → Prop) → Prop := fun x P => match x with
  | .int i => P (.int (-i))
  | _ => False
theorem l_neg : LUn K (rU fun i => .int (-i)) neg1 := fun a B H x u P Q s ex r k => by
  unfold neg1 at r
  split at r
  · cases Emb.int ex
    exact ⟨_, rfl, k _ B H _ (Stp.refl s) emb_int r⟩
  · exact r.elim
/-- == of scalars -/
def eqS : D → D → (D → Prop) → Prop := fun x y P => match x, y with
  | .int i, .int j => P (.bl (decide (i = j)))
  | .str i, .str j => P (.bl (decide (i = j)))
  | .bl i, .bl j => P (.bl (i == j))
  | .non, .non => P (.bl true)
  | .non, .int _ => P (.bl false)
  | .int _, .non => P (.bl false)
  | .non, .str _ => P (.bl false)
  | .str _, .non => P (.bl false)
  | .int _, .str _ => P (.bl false)
  | .str _, .int _ => P (.bl false)
  | .bl _, .str _ => P (.bl false)
  | .str _, .bl _ => P (.bl false)
  | .non, .bl _ => P (.bl false)
  | .bl _, .non => P (.bl false)
  | _, _ => False
def neS : D → D → (D → Prop) → Prop := fun x y P => eqS x y fun d => match d with
  | .bl b => P (.bl (!b))
  | _ => False
theorem eqS_V {a : Addr} {B : Hp} {x y : D} {u v : V} {P : D → Prop} (ex : Emb K a B x u) (ey : Emb K a B y v) (r : eqS x y P) : scal u v = true ∧ P (.bl (decide (u = v))) := by
  unfold eqS at r
  split at r <;> first
    | (cases Emb.int ex; cases Emb.int ey; exact ⟨rfl, by rw [dI]; exact r⟩)
    | (cases Emb.str ex; cases Emb.str ey; exact ⟨rfl, by rw [dS]; exact r⟩)
    | (cases Emb.bl ex; cases Emb.bl ey; exact ⟨rfl, by rw [dB]; exact r⟩)
    | (cases Emb.non ex; cases Emb.non ey; exact ⟨rfl, by simpa using r⟩)
    | (cases Emb.non ex; cases Emb.int ey; exact ⟨rfl, by simpa using r⟩)
    | (cases Emb.int ex; cases Emb.non ey; exact ⟨rfl, by simpa using r⟩)
    | (cases Emb.non ex; cases Emb.str ey; exact ⟨rfl, by simpa using r⟩)
    | (cases Emb.str ex; cases Emb.non ey; exact ⟨rfl, by simpa using r⟩)
    | (cases Emb.int ex; cases Emb.str ey; exact ⟨rfl, by simpa using r⟩)
    | (cases Emb.str ex; cases Emb.int ey; exact ⟨rfl, by simpa using r⟩)
    | (cases Emb.bl ex; cases Emb.str ey; exact ⟨rfl, by simpa using r⟩)
    | (cases Emb.str ex; cases Emb.bl ey; exact ⟨rfl, by simpa using r⟩)
    | (cases Emb.non ex; cases Emb.bl ey; exact ⟨rfl, by simpa using r⟩)
    | (cases Emb.bl ex; cases Emb.non ey; exact ⟨rfl, by simpa using r⟩)
    | exact r.elim
theorem l_eqS : LOp K rEq eqS := fun a B H x y u v P Q s ex ey r k => by
  obtain ⟨h1, h2⟩ := eqS_V ex ey r
  exact ⟨h1, k _ B H _ (Stp.refl s) emb_bl h2⟩
theorem l_neS : LOp K rNe neS := fun a B H x y u v P Q s ex ey r k => by
  obtain ⟨h1, h2⟩ := eqS_V ex ey r
  exact ⟨h1, k _ B H _ (Stp.refl s) emb_bl h2⟩
def isN : D → Bool
  | .non => true
  | _ => false
theorem isN_V {a : Addr} {B : Hp} {x : D} {u : V} (h : Emb K a B x u) : decide (u = .non) = isN x := by
  cases x with
  | non => cases Emb.non h; rfl
  | bl b => cases Emb.bl h; rfl
  | int i => cases Emb.int h; rfl
  | str z => cases Emb.str h; rfl
  | tup xs => obtain ⟨p, us, rfl, _⟩ := Emb.tup h; rfl
  | ptup xs => obtain ⟨p, us, o, rfl, _⟩ := Emb.ptup h; rfl
  | lst xs => obtain ⟨p, us, rfl, _⟩ := Emb.lst h; rfl
  | dct ks ds => obtain ⟨p, us, rfl, _⟩ := Emb.dct h; rfl
  | ins c ns ds => obtain ⟨p, dx, fs, us, rfl, _⟩ := Emb.ins h; rfl
  | hand => cases Emb.hand h; rfl
def isNd : D → D → (D → Prop) → Prop := fun x y P => match y with
  | .non => P (.bl (isN x))
  | _ => False
def ntNd : D → D → (D → Prop) → Prop := fun x y P => match y with
  | .non => P (.bl (!isN x))
  | _ => False
theorem l_isN : LOp K rIsNU isNd := fun a B H x y u v P Q s ex ey r k => by
  unfold isNd at r
  split at r
  · cases Emb.non ey
    exact ⟨rfl, by rw [isN_V ex]; exact k _ B H _ (Stp.refl s) emb_bl r⟩
  · exact r.elim
theorem l_ntN : LOp K rNotNU ntNd := fun a B H x y u v P Q s ex ey r k => by
  unfold ntNd at r
  split at r
  · cases Emb.non ey
    exact ⟨rfl, by rw [isN_V ex]; exact k _ B H _ (Stp.refl s) emb_bl r⟩
  · exact r.elim
/-! ### == of data -/
mutual
def D.py : D → PyData
  | .bl b => .bool b
  | .int i => .int i
  | .str z => .str z
  | .tup xs => .tuple (D.pyL xs)
  | .lst xs => .list (D.pyL xs)
  | _ => .none
def D.pyL : List D → List PyData
  | [] => []
  | d :: ds => d.py :: D.pyL ds
end
mutual
def D.plain : D → Bool
  | .non => true
  | .bl _ => true
  | .int _ => true
  | .str z => PyData.strOk z
  | .tup xs => D.plainL xs
  | .lst xs => D.plainL xs
  | _ => false
def D.plainL : List D → Bool
  | [] => true
  | d :: ds => d.plain && D.plainL ds
end
mutual
theorem emb_dp {a : Addr} {B H : Hp} (s : Same B H) : ∀ {d : D} {v : V}, d.plain = true → Emb K a B d v → Dp K H v d.py
  | .non, v, _, h => by cases Emb.non h; unfold D.py; exact .non
  | .bl b, v, _, h => by cases Emb.bl h; unfold D.py; exact .bl b
  | .int i, v, _, h => by cases Emb.int h; unfold D.py; exact .int i
  | .str z, v, _, h => by cases Emb.str h; unfold D.py; exact .str z
  | .tup xs, v, p, h => by
    obtain ⟨q, us, rfl, hq, r⟩ := Emb.tup h
    unfold D.plain at p
    unfold D.py
    exact .tup (SqT.of (s _ _ hq)) (emb_dpL s p r)
  | .lst xs, v, p, h => by
    obtain ⟨q, us, rfl, hq, r⟩ := Emb.lst h
    unfold D.plain at p
    unfold D.py
    exact .lst (SqL.of (s _ _ hq)) (emb_dpL s p r)
  | .dct ks ds, v, p, h => by unfold D.plain at p; cases p
  | .ins c ns ds, v, p, h => by unfold D.plain at p; cases p
  | .hand, v, p, h => by unfold D.plain at p; cases p
theorem emb_dpL {a : Addr} {B H : Hp} (s : Same B H) : ∀ {ds : List D} {vs : List V}, D.plainL ds = true → EmbL K a B ds vs → DpAll K H vs (D.pyL ds)
  | [], vs, _, h => by rw [h.of_nil]; unfold D.pyL; exact .nil
  | d :: ds, vs, p, h => by
    obtain ⟨u, r, rfl, h1, h2⟩ := h.uncons
    unfold D.plainL at p
    rw [Bool.and_eq_true] at p
    unfold D.pyL
    exact .cons (emb_dp s p.1 h1) (emb_dpL s p.2 h2)
end
mutual
theorem plain_lay : ∀ {d : D}, d.plain = true → PyData.canLay0 d.py = true
  | .non, _ => by simp [D.py, PyData.canLay0]
  | .bl b, _ => by simp [D.py, PyData.canLay0]
  | .int i, _ => by simp [D.py, PyData.canLay0]
  | .str z, p => by unfold D.plain at p; simp [D.py, PyData.canLay0, p]
  | .tup xs, p => by unfold D.plain at p; simp [D.py, PyData.canLay0, plain_layL p]
  | .lst xs, p => by unfold D.plain at p; simp [D.py, PyData.canLay0, plain_layL p]
  | .dct ks ds, p => by unfold D.plain at p; cases p
  | .ins c ns ds, p => by unfold D.plain at p; cases p
  | .hand, p => by unfold D.plain at p; cases p
theorem plain_layL : ∀ {ds : List D}, D.plainL ds = true → PyData.canLayAll0 (D.pyL ds) = true
  | [], _ => by simp [D.pyL, PyData.canLayAll0]
  | d :: ds, p => by
    unfold D.plainL at p
    rw [Bool.and_eq_true] at p
    simp [D.pyL, PyData.canLayAll0, plain_lay p.1, plain_layL p.2]
end
mutual
def D.dep : D → Nat
  | .tup xs => D.depL xs + 1
  | .lst xs => D.depL xs + 1
  | _ => 0
def D.depL : List D → Nat
  | [] => 0
  | d :: ds => max d.dep (D.depL ds)
end
mutual
theorem dep_py : ∀ (d : D), PyData.depth d.py = d.dep
  | .non => by simp [D.py, PyData.depth, D.dep]
  | .bl b => by simp [D.py, PyData.depth, D.dep]
  | .int i => by simp [D.py, PyData.depth, D.dep]
  | .str z => by simp [D.py, PyData.depth, D.dep]
  | .tup xs => by simp [D.py, PyData.depth, D.dep, dep_pyL xs]
  | .lst xs => by simp [D.py, PyData.depth, D.dep, dep_pyL xs]
  | .ptup xs => by simp [D.py, PyData.depth, D.dep]
  | .dct ks ds => by simp [D.py, PyData.depth, D.dep]
  | .ins c ns ds => by simp [D.py, PyData.depth, D.dep]
  | .hand => by simp [D.py, PyData.depth, D.dep]
theorem dep_pyL : ∀ (ds : List D), PyData.depthAll (D.pyL ds) = D.depL ds
  | [] => by simp [D.pyL, PyData.depthAll, D.depL]
  | d :: ds => by simp [D.pyL, PyData.depthAll, D.depL, dep_py d, dep_pyL ds]
end
/-- fit for == -/
def D.ok (d : D) : Bool := d.plain && decide (d.dep ≤ 64)
theorem ok_shaped {d : D} (h : d.ok = true) : SeqAt.shaped d.py = true := by
  unfold D.ok at h
  rw [Bool.and_eq_true] at h
  unfold SeqAt.shaped
  rw [plain_lay h.1, dep_py, h.2]
  rfl
/-- Python's == -/
def eqv (x y : D) : Bool := PyData.eqv x.py y.py
def eqD : D → D → (D → Prop) → Prop := fun x y P => (x.ok = true ∧ y.ok = true) ∧ P (.bl (eqv x y))
def neD : D → D → (D → Prop) → Prop := fun x y P => (x.ok = true ∧ y.ok = true) ∧ P (.bl (!eqv x y))
theorem l_eqD : LOp K (rEqD K) eqD := fun a B H x y u v P Q s ex ey r k => by
  have p1 : x.plain = true := (Bool.and_eq_true_iff.mp r.1.1).1
  have p2 : y.plain = true := (Bool.and_eq_true_iff.mp r.1.2).1
  exact ⟨_, _, emb_dp s p1 ex, emb_dp s p2 ey, ok_shaped r.1.1, ok_shaped r.1.2, k _ B H _ (Stp.refl s) emb_bl r.2⟩
theorem l_neD : LOp K (rNeD K) neD := fun a B H x y u v P Q s ex ey r k => by
  have p1 : x.plain = true := (Bool.and_eq_true_iff.mp r.1.1).1
  have p2 : y.plain = true := (Bool.and_eq_true_iff.mp r.1.2).1
  exact ⟨_, _, emb_dp s p1 ex, emb_dp s p2 ey, ok_shaped r.1.1, ok_shaped r.1.2, k _ B H _ (Stp.refl s) emb_bl r.2⟩
/-! ### things read where they stand -/
/-- v is d, which may be a slot's own -/
def RP (K : PySem.W.Frag) : Addr → Hp → Hp → Hp → D → V → Prop := fun a _ B' H' d v => Emb K a B' d v ∨ (∃ xs p us, d = .lst xs ∧ v = .ref p ∧ H' p = some (.lst us) ∧ EmbL K a B' xs us) ∨ (∃ ks ds p kvs, d = .dct ks ds ∧ v = .ref p ∧ H' p = some (.dK kvs) ∧ kvs.map (·.1) = ks ∧ EmbL K a B' ds (kvs.map (·.2)))
def slP (sl : Sl) (P : D → Prop) : Prop := match sl with
  | .val d => P d
  | .own xs => P (.lst xs)
  | .ownK ks ds => P (.dct ks ds)
  | .ownN _ _ _ => False
  | .lck _ _ => False
  | .rd _ _ => False
  | .no => False
def dPk (i : Nat) : DE := fun s _ P => slP (gS s i) fun d => P d s
theorem slot_pk {a : Addr} {B H H0 : Hp} {sl : Sl} {o : Option V} {P : D → Prop} (h : SlR K a B H H0 sl o) (q : slP sl P) : ∃ v d, o = some v ∧ (∀ Ho, RP K a Ho B H d v) ∧ P d := by
  cases sl with
  | no => exact q.elim
  | ownN c ps xss => exact q.elim
  | lck ks ds => exact q.elim
  | rd ks ds => exact q.elim
  | val d => obtain ⟨v, e, hv⟩ := h; exact ⟨v, d, e, fun _ => .inl hv, q⟩
  | own xs => obtain ⟨p, us, e, h1, _, _, h4⟩ := h; exact ⟨_, _, e, fun _ => .inr (.inl ⟨xs, p, us, rfl, rfl, h1, h4⟩), q⟩
  | ownK ks ds => obtain ⟨p, us, e, h1, _, _, h4, h5⟩ := h; exact ⟨_, _, e, fun _ => .inr (.inr ⟨ks, ds, p, us, rfl, rfl, h1, h4, h5⟩), q⟩
theorem snd_pk {W : WX} {i : Nat} : Snd K W (RP K) (tVar i) (dPk i) := fun a B0 H0 s σ B H E P Q R L ht k => by
  have h := R.slot i
  unfold dPk at ht
  cases q : gS s i with
  | no => rw [q] at ht; exact ht.elim
  | ownN c ps xss => rw [q] at ht; exact ht.elim
  | lck ks ds => rw [q] at ht; exact ht.elim
  | rd ks ds => rw [q] at ht; exact ht.elim
  | val d =>
    rw [q] at h ht
    obtain ⟨v, e, hv⟩ := h
    exact ⟨v, join_some e, k d s v B H (.refl R) (.inl hv) ht⟩
  | own xs =>
    rw [q] at h ht
    obtain ⟨p, us, e, h1, h2, h3, h4⟩ := h
    exact ⟨_, join_some e, k _ s _ B H (.refl R) (.inr (.inl ⟨xs, p, us, rfl, rfl, h1, h4⟩)) ht⟩
  | ownK ks ds =>
    rw [q] at h ht
    obtain ⟨p, us, e, h1, h2, h3, h4, h5⟩ := h
    exact ⟨_, join_some e, k _ s _ B H (.refl R) (.inr (.inr ⟨ks, ds, p, us, rfl, rfl, h1, h4, h5⟩)) ht⟩
theorem RP.seq {a : Addr} {Ho B H : Hp} {d : D} {v : V} (s : Same B H) (h : RP K a Ho B H d v) : (∀ xs, d = .lst xs → ∃ p us, v = .ref p ∧ H p = some (.lst us) ∧ EmbL K a B xs us) ∧ (∀ xs, d = .tup xs → ∃ p us, v = .ref p ∧ H p = some (.tup us) ∧ EmbL K a B xs us) ∧ (∀ z, d = .str z → v = .str z) ∧ (∀ ks ds, d = .dct ks ds → ∃ p kvs, v = .ref p ∧ H p = some (.dK kvs) ∧ kvs.map (·.1) = ks ∧ EmbL K a B ds (kvs.map (·.2))) := by
  rcases h with h | ⟨xs, p, us, rfl, rfl, h1, h2⟩ | ⟨ks, ds, p, us, rfl, rfl, h1, h2, h3⟩
  · refine ⟨fun xs e => ?_, fun xs e => ?_, fun z e => ?_, fun ks ds e => ?_⟩
    · subst e; obtain ⟨p, us, e, hp, r⟩ := Emb.lst h; exact ⟨p, us, e, s _ _ hp, r⟩
    · subst e; obtain ⟨p, us, e, hp, r⟩ := Emb.tup h; exact ⟨p, us, e, s _ _ hp, r⟩
    · subst e; exact Emb.str h
    · subst e; obtain ⟨p, us, e, hp, r⟩ := Emb.dct h; exact ⟨p, us, e, s _ _ hp, r⟩
  · exact ⟨fun xs' e => (by cases e; exact ⟨p, us, rfl, h1, h2⟩), fun _ e => (by cases e), fun _ e => (by cases e), fun _ _ e => (by cases e)⟩
  · exact ⟨fun _ e => (by cases e), fun _ e => (by cases e), fun _ e => (by cases e), fun ks' ds' e => (by cases e; exact ⟨p, us, rfl, h1, h2, h3⟩)⟩
/-- a two-place relation whose left (right) operand is read where it stands -/
def LOpL (K : PySem.W.Frag) (r : R2) (rd : D → D → (D → Prop) → Prop) : Prop := ∀ (a : Addr) (B H : Hp) (x y : D) (u v : V) (P : D → Prop) (Q : VK), Same B H → RP K a H B H x u → Emb K a B y v → rd x y P →
  (∀ d B' H' w, Stp No B H B' H' → Emb K a B' d w → P d → Q w H') → r u v H Q
def LOpR (K : PySem.W.Frag) (r : R2) (rd : D → D → (D → Prop) → Prop) : Prop := ∀ (a : Addr) (B H : Hp) (x y : D) (u v : V) (P : D → Prop) (Q : VK), Same B H → Emb K a B x u → RP K a H B H y v → rd x y P →
  (∀ d B' H' w, Stp No B H B' H' → Emb K a B' d w → P d → Q w H') → r u v H Q
theorem LOpL.op {r : R2} {rd : D → D → (D → Prop) → Prop} (h : LOpL K r rd) : LOp K r rd := fun a B H x y u v P Q s ex ey => h a B H x y u v P Q s (.inl ex) ey
theorem LOpR.op {r : R2} {rd : D → D → (D → Prop) → Prop} (h : LOpR K r rd) : LOp K r rd := fun a B H x y u v P Q s ex ey => h a B H x y u v P Q s ex (.inl ey)
def Sl.is : Sl → Bool
  | .no => false
  | _ => true
/-- x op e, x a slot -/
def dOpL (rd : D → D → (D → Prop) → Prop) (i : Nat) (t : DE) : DE := fun s E P => (gS s i).is = true ∧ t s E fun y s1 => slP (gS s1 i) fun d => rd d y fun z => P z s1
theorem slot_is {a : Addr} {B H H0 : Hp} {sl : Sl} {o : Option V} (h : SlR K a B H H0 sl o) (q : sl.is = true) : ∃ v, o = some v := by
  cases sl with
  | no => cases q
  | val d => obtain ⟨v, e, _⟩ := h; exact ⟨v, e⟩
  | own xs => obtain ⟨p, us, e, _⟩ := h; exact ⟨_, e⟩
  | ownK ks ds => obtain ⟨p, us, e, _⟩ := h; exact ⟨_, e⟩
  | lck ks ds => obtain ⟨p, us, od, e, _⟩ := h; exact ⟨_, e⟩
  | rd ks ds => obtain ⟨p, us, e, _⟩ := h; exact ⟨_, e⟩
  | ownN c ps xss => cases c with
    | some ks => obtain ⟨p, us, e, _⟩ := h; exact ⟨_, e⟩
    | none => obtain ⟨p, e, _⟩ := h; exact ⟨_, e⟩
theorem snd_opL {W : WX} {r : R2} {rd : D → D → (D → Prop) → Prop} {i : Nat} {te : TE} {t : DE} (l : LOpL K r rd) (h : Snd K W (RE K) te t) : Snd K W (RE K) (tOp r (tVar i) te) (dOpL rd i t) := fun a B0 H0 s σ B H E P Q R L ⟨hi, ht⟩ k => by
  obtain ⟨u, eu⟩ := slot_is (R.slot i) hi
  refine ⟨u, join_some eu, h a B0 H0 s σ B H E _ _ R L ht fun y s1 v B1 H1 f ey q => ?_⟩
  obtain ⟨u', d, e', rp, q'⟩ := slot_pk (P := fun d => rd d y fun z => P z s1) (f.rel.slot i) q
  rw [eu] at e'
  cases e'
  exact l a B1 H1 d y u v _ _ f.rel.gr.bh (rp _) ey q' fun z B2 H2 w g e2 pz => k z s1 w B2 H2 (f.trans (.pure f.rel g)) e2 pz
/-- e op x, x a slot -/
def dOpR (rd : D → D → (D → Prop) → Prop) (t : DE) (i : Nat) : DE := fun s E P => t s E fun x s1 => slP (gS s1 i) fun d => rd x d fun z => P z s1
theorem snd_opR {W : WX} {r : R2} {rd : D → D → (D → Prop) → Prop} {i : Nat} {te : TE} {t : DE} (l : LOpR K r rd) (h : Snd K W (RE K) te t) : Snd K W (RE K) (tOp r te (tVar i)) (dOpR rd t i) := fun a B0 H0 s σ B H E P Q R L ht k =>
  h a B0 H0 s σ B H E _ _ R L ht fun x s1 u B1 H1 f ex q => by
    obtain ⟨v, d, e', rp, q'⟩ := slot_pk (P := fun d => rd x d fun z => P z s1) (f.rel.slot i) q
    exact ⟨v, join_some e', l a B1 H1 x d u v _ _ f.rel.gr.bh ex (rp _) q' fun z B2 H2 w g e2 pz => k z s1 w B2 H2 (f.trans (.pure f.rel g)) e2 pz⟩
/-- a built-in of one thing that is read where it stands -/
def LCallP (K : PySem.W.Frag) (r : List V → Hp → VK → Prop) (rd : D → (D → Prop) → Prop) : Prop := ∀ (a : Addr) (B H : Hp) (x : D) (u : V) (P : D → Prop) (Q : VK), Same B H → RP K a H B H x u → rd x P → (∀ d B' H' w, Stp No B H B' H' → Emb K a B' d w → P d → Q w H') → r [u] H Q
def LCallPN (K : PySem.W.Frag) (r : List V → Hp → VK → Prop) (rd : D → (List D → Prop) → Prop) : Prop := ∀ (a : Addr) (B H : Hp) (x : D) (u : V) (P : List D → Prop) (Q : VK), Same B H → RP K a H B H x u → rd x P → (∀ d B' H' w, Stp No B H B' H' → RN K a H B' H' d w → P d → Q w H') → r [u] H Q
def c1 {α : Type} (rd : D → (α → Prop) → Prop) : List D → (α → Prop) → Prop := fun ds P => match ds with
  | [d] => rd d P
  | _ => False
theorem LCallP.call {r : List V → Hp → VK → Prop} {rd : D → (D → Prop) → Prop} (h : LCallP K r rd) : LCall K r (c1 rd) := fun a B H xs us P Q s e r' k => by
  match xs, r' with
  | [x], r' =>
    obtain ⟨u, rfl, eu⟩ := embl1 e
    exact h a B H x u P Q s (.inl eu) r' k
theorem LCallPN.call {r : List V → Hp → VK → Prop} {rd : D → (List D → Prop) → Prop} (h : LCallPN K r rd) : LCallN K r (c1 rd) := fun a B H xs us P Q s e r' k => by
  match xs, r' with
  | [x], r' =>
    obtain ⟨u, rfl, eu⟩ := embl1 e
    exact h a B H x u P Q s (.inl eu) r' k
def dCallP (rd : D → (D → Prop) → Prop) (i : Nat) : DE := fun s E P => dPk i s E fun d s1 => rd d fun z => P z s1
def dCallPN (rd : D → (List D → Prop) → Prop) (i : Nat) : DA := fun s E P => dPk i s E fun d s1 => rd d fun z => P z s1
theorem snd_callP {W : WX} {r : List V → Hp → VK → Prop} {rd : D → (D → Prop) → Prop} {i : Nat} (l : LCallP K r rd) : Snd K W (RE K) (tCB r (tCons (tVar i) tNil)) (dCallP rd i) := fun a B0 H0 s σ B H E P Q R L ht k =>
  snd_pk a B0 H0 s σ B H E _ _ R L ht fun d s1 u B1 H1 f rp q => l a B1 H1 d u _ _ f.rel.gr.bh rp q fun z B2 H2 w g e2 pz => k z s1 w B2 H2 (f.trans (.pure f.rel g)) e2 pz
theorem snd_callPN {W : WX} {r : List V → Hp → VK → Prop} {rd : D → (List D → Prop) → Prop} {i : Nat} (l : LCallPN K r rd) : Snd K W (RN K) (tCB r (tCons (tVar i) tNil)) (dCallPN rd i) := fun a B0 H0 s σ B H E P Q R L ht k =>
  snd_pk a B0 H0 s σ B H E _ _ R L ht fun d s1 u B1 H1 f rp q => l a B1 H1 d u _ _ f.rel.gr.bh rp q fun z B2 H2 w g e2 pz => k z s1 w B2 H2 (f.trans (.pure f.rel g)) (RN.up f.stp e2) pz
/-! ### sequences -/
theorem EmbL.atI {a : Addr} {B : Hp} {xs : List D} {us : List V} {i : Int} {d : D} (h : EmbL K a B xs us) (e : L2.atI xs i = some d) : ∃ u, L2.atI us i = some u ∧ Emb K a B d u := by
  unfold L2.atI at e ⊢
  rw [h.length]
  cases q : ixN xs.length i with
  | none => rw [q] at e; cases e
  | some j => rw [q] at e; exact h.get e
def ixD : D → D → (D → Prop) → Prop := fun x y P => match y with
  | .int i => match x with
    | .lst xs => (match atI xs i with
      | some d => P d
      | none => False)
    | .tup xs => (match atI xs i with
      | some d => P d
      | none => False)
    | .str z => z.length ≤ sizeLine ∧ (match atI z.cps.toList i with
      | some c => P (.str ⟨#[c]⟩)
      | none => False)
    | _ => False
  | _ => False
theorem l_ix : LOpL K (rIx K) ixD := fun a B H x y u v P Q s ex ey r k => by
  have hs := RP.seq s ex
  unfold ixD at r
  split at r
  · cases Emb.int ey
    split at r
    · split at r
      · rename_i xs d e
        obtain ⟨p, us, rfl, hp, em⟩ := hs.1 _ rfl
        obtain ⟨w, hw, ew⟩ := em.atI e
        exact .inl ⟨p, us, _, w, rfl, rfl, SqL.of hp, hw, k _ B H w (Stp.refl s) ew r⟩
      · exact r.elim
    · split at r
      · rename_i xs d e
        obtain ⟨p, us, rfl, hp, em⟩ := hs.2.1 _ rfl
        obtain ⟨w, hw, ew⟩ := em.atI e
        exact .inr (.inl ⟨p, us, _, w, rfl, rfl, SqT.of hp, hw, k _ B H w (Stp.refl s) ew r⟩)
      · exact r.elim
    · obtain ⟨r1, r2⟩ := r
      split at r2
      · rename_i c e
        cases hs.2.2.1 _ rfl
        exact .inr (.inr ⟨_, _, c, rfl, rfl, r1, e, k _ B H _ (Stp.refl s) emb_str r2⟩)
      · exact r2.elim
    · exact r.elim
  · exact r.elim
def lenD : D → (D → Prop) → Prop := fun x P => match x with
  | .lst xs => P (.int xs.length)
  | .tup xs => P (.int xs.length)
  | _ => False
theorem l_len : LCallP K (rLenU K) lenD := fun a B H x u P Q s ex r k => by
  have hs := RP.seq s ex
  unfold lenD at r
  split at r
  · obtain ⟨p, us, rfl, hp, em⟩ := hs.1 _ rfl
    exact ⟨p, us, rfl, .inl (SqL.of hp), by rw [em.length]; exact k _ B H _ (Stp.refl s) emb_int r⟩
  · obtain ⟨p, us, rfl, hp, em⟩ := hs.2.1 _ rfl
    exact ⟨p, us, rfl, .inr (SqT.of hp), by rw [em.length]; exact k _ B H _ (Stp.refl s) emb_int r⟩
  · exact r.elim
def lenS : D → (D → Prop) → Prop := fun x P => match x with
  | .str z => z.length ≤ sizeLine ∧ P (.int z.length)
  | _ => False
theorem l_lenS : LCallP K rLenS lenS := fun a B H x u P Q s ex r k => by
  have hs := RP.seq s ex
  unfold lenS at r
  split at r
  · cases hs.2.2.1 _ rfl
    exact ⟨_, rfl, r.1, k _ B H _ (Stp.refl s) emb_int r.2⟩
  · exact r.elim
/-! all, any of flags -/
def asB : List D → Option (List Bool)
  | [] => some []
  | .bl b :: r => (asB r).map (b :: ·)
  | _ :: _ => none
theorem asB_V {a : Addr} {B : Hp} : ∀ {ds : List D} {us : List V} {bs : List Bool}, EmbL K a B ds us → asB ds = some bs → us = bs.map V.bl
  | [], us, bs, h, e => by cases e; exact h.of_nil
  | .bl b :: r, us, bs, h, e => by
    obtain ⟨u, r', rfl, h1, h2⟩ := h.uncons
    cases Emb.bl h1
    unfold asB at e
    cases q : asB r with
    | none => rw [q] at e; cases e
    | some cs =>
      rw [q] at e
      cases e
      rw [asB_V h2 q]
      rfl
  | .non :: _, _, _, _, e => by cases e
  | .int _ :: _, _, _, _, e => by cases e
  | .str _ :: _, _, _, _, e => by cases e
  | .tup _ :: _, _, _, _, e => by cases e
  | .ptup _ :: _, _, _, _, e => by cases e
  | .lst _ :: _, _, _, _, e => by cases e
  | .dct _ _ :: _, _, _, _, e => by cases e
  | .ins _ _ _ :: _, _, _, _, e => by cases e
  | .hand :: _, _, _, _, e => by cases e
theorem asB_map (bs : List Bool) : asB (bs.map D.bl) = some bs := by
  induction bs with
  | nil => rfl
  | cons b bs ih => rw [List.map_cons]; unfold asB; rw [ih]; rfl
def allD : D → (D → Prop) → Prop := fun x P => match x with
  | .lst xs => ∃ bs : List Bool, xs = bs.map D.bl ∧ P (.bl (bs.all id))
  | _ => False
def anyD : D → (D → Prop) → Prop := fun x P => match x with
  | .lst xs => ∃ bs : List Bool, xs = bs.map D.bl ∧ P (.bl (bs.any id))
  | _ => False
theorem l_all : LCallP K (rAll K) allD := fun a B H x u P Q s ex r k => by
  have hs := RP.seq s ex
  unfold allD at r
  split at r
  · obtain ⟨bs, rfl, r⟩ := r
    obtain ⟨p, us, rfl, hp, em⟩ := hs.1 _ rfl
    exact ⟨p, bs, rfl, SqL.of (by rw [hp, asB_V em (asB_map bs)]), k _ B H _ (Stp.refl s) emb_bl r⟩
  · exact r.elim
theorem l_any : LCallP K (rAny K) anyD := fun a B H x u P Q s ex r k => by
  have hs := RP.seq s ex
  unfold anyD at r
  split at r
  · obtain ⟨bs, rfl, r⟩ := r
    obtain ⟨p, us, rfl, hp, em⟩ := hs.1 _ rfl
    exact ⟨p, bs, rfl, SqL.of (by rw [hp, asB_V em (asB_map bs)]), k _ B H _ (Stp.refl s) emb_bl r⟩
  · exact r.elim
end
end Dl
set_option maxRecDepth 100000
set_option maxHeartbeats 2000000
namespace Dl
open PySem PySem.Spec PyProof.Rows L2 Us
section
variable {X : Cx} {K : PySem.W.Frag} {W : WX} {pos : Pos} {e : Expr} {te : TE} {t : DE}
/-! ### isinstance -/
inductive Bt where
  | tuple | list | dict | int | bool | str
def Bt.nm : Bt → String
  | .tuple => "tuple"
  | .list => "list"
  | .dict => "dict"
  | .int => "int"
  | .bool => "bool"
  | .str => "str"
theorem Bt.nm_in (b : Bt) : b.nm ∈ tyNs := by cases b <;> decide
def isiB : D → Bt → Bool
  | .bl _, .bool => true
  | .bl _, .int => true
  | .int _, .int => true
  | .str _, .str => true
  | .tup _, .tuple => true
  | .lst _, .list => true
  | .dct _ _, .dict => true
  | _, _ => false
/-- the classes whose instances are none of the built-in kinds -/
def ClsOk (K : PySem.W.Frag) (cs : List Str) : Prop := ∀ c ∈ cs, OwnC K (He.ga K c)
def isOk (cs : List Str) : D → Prop
  | .ins c _ _ => c ∈ cs
  | .hand => False
  | .ptup _ => False
  | _ => True
def Bt.isB : Bt → Bool
  | .bool => true
  | .int => true
  | _ => false
def Bt.is : Bt → Bt → Bool
  | .tuple, .tuple => true
  | .list, .list => true
  | .dict, .dict => true
  | .int, .int => true
  | .bool, .bool => true
  | .str, .str => true
  | _, _ => false
theorem Bt.nm_b (b : Bt) : (b.nm == "bool" || b.nm == "int") = b.isB := by cases b <;> decide
theorem Bt.nm_is (b c : Bt) : (b.nm == c.nm) = b.is c := by cases b <;> cases c <;> decide
theorem emb_sh {cs : List Str} {a : Addr} {B : Hp} {d : D} {v : V} (hc : ClsOk K cs) (ok : isOk cs d) (h : Emb K a B d v) : Sh K B v ∧ ∀ b : Bt, shB B v b.nm = isiB d b := by
  cases d with
  | non => cases Emb.non h; exact ⟨.non, fun _ => rfl⟩
  | bl b => cases Emb.bl h; exact ⟨.bl b, fun b => (Bt.nm_b b).trans (by cases b <;> rfl)⟩
  | int i => cases Emb.int h; exact ⟨.int i, fun b => (Bt.nm_is b .int).trans (by cases b <;> rfl)⟩
  | str z => cases Emb.str h; exact ⟨.str z, fun b => (Bt.nm_is b .str).trans (by cases b <;> rfl)⟩
  | tup xs => obtain ⟨p, us, rfl, hp, _⟩ := Emb.tup h; exact ⟨.tup hp, fun b => ((shB_tup hp).trans (Bt.nm_is b .tuple)).trans (by cases b <;> rfl)⟩
  | lst xs => obtain ⟨p, us, rfl, hp, _⟩ := Emb.lst h; exact ⟨.lst hp, fun b => ((shB_lst hp).trans (Bt.nm_is b .list)).trans (by cases b <;> rfl)⟩
  | dct ks ds => obtain ⟨p, us, rfl, hp, _⟩ := Emb.dct h; exact ⟨.dct hp, fun b => ((shB_dct hp).trans (Bt.nm_is b .dict)).trans (by cases b <;> rfl)⟩
  | ins c ns ds => obtain ⟨p, dx, fs, us, rfl, hp, _⟩ := Emb.ins h; exact ⟨.ins hp (hc c ok), fun _ => shB_ins hp⟩
  | hand => exact ok.elim
  | ptup xs => exact ok.elim
def dIsi (cs : List Str) (n : Bt) (t : DE) : DE := fun s E P => t s E fun d s1 => isOk cs d ∧ P (.bl (isiB d n)) s1
theorem de_isi {cs : List Str} {n : Bt} {x : Str} {p p1 : Pos} (hc : ClsOk K cs) (hm : X.mg "isinstance" = none) (hmx : X.mg x = none) (hv : bootBuiltins x = some (.type n.nm)) (h : DPE X K W e te t)
    (hg : Gl X "isinstance" := by rfl) (hgx : Gl X x := by rfl) (hn : x ≠ "__name__" := by decide) (hdb : (x == ("__debug__" : Str)) = false := by decide)
    (s1 : starEach [e, .Name x p1] X.env = (false, eval e X.env) :: starEach [.Name x p1] X.env := by rfl) (s2 : starEach [.Name x p1] X.env = (false, eval (.Name x p1) X.env) :: starEach [] X.env := by rfl) (hpl : (backTo pos (starEach [.Name x p1] X.env)).any (·.1) = false := by rfl) :
    DPE X K W (.Call (.Name "isinstance" p) [e, .Name x p1] [] pos) (tCB (rIsi K) (tCons te (tCons (tC (.ty n.nm)) tNil))) (dIsi cs n t) :=
  ⟨h.k, by have hk := h.k; subst hk; exact pe_callB call_isi hg hm (by decide +kernel) (pa_cons h.pe (pa_cons (pe_bltn hgx hmx hv rfl hn hdb) pa_nil s2) s1) (by decide) (by decide) s1 hpl, fun a B0 H0 s σ B H E P Q R L ht k =>
    h.sn a B0 H0 s σ B H E _ _ R L ht fun d s1 v B1 H1 f em q => by
      obtain ⟨sh, eb⟩ := emb_sh hc q.1 em
      refine i_isi f.rel.gr.bh sh ?_ n.nm_in
      rw [eb]
      exact k _ s1 _ B1 H1 f emb_bl q.2⟩
def dIsi2 (cs : List Str) (n m : Bt) (t : DE) : DE := fun s E P => t s E fun d s1 => isOk cs d ∧ P (.bl (isiB d n || isiB d m)) s1
theorem de_isi2 {cs : List Str} {n m : Bt} {x y : Str} {p p1 p2 tp : Pos} {c0 : Nat} (hc : ClsOk K cs) (hm : X.mg "isinstance" = none) (hmx : X.mg x = none) (hvx : bootBuiltins x = some (.type n.nm)) (hmy : X.mg y = none) (hvy : bootBuiltins y = some (.type m.nm)) (h : DPE X K W e te t)
    (hg : Gl X "isinstance" := by rfl) (hgx : Gl X x := by rfl) (hgy : Gl X y := by rfl) (hn : x ≠ "__name__" := by decide) (hdb : (x == ("__debug__" : Str)) = false := by decide) (hn' : y ≠ "__name__" := by decide) (hdb' : (y == ("__debug__" : Str)) = false := by decide)
    (s1 : starEach [e, .Tuple [.Name x p1, .Name y p2] c0 tp] X.env = (false, eval e X.env) :: starEach [.Tuple [.Name x p1, .Name y p2] c0 tp] X.env := by rfl) (s2 : starEach [.Tuple [.Name x p1, .Name y p2] c0 tp] X.env = (false, eval (.Tuple [.Name x p1, .Name y p2] c0 tp) X.env) :: starEach [] X.env := by rfl) (hpl : (backTo pos (starEach [.Tuple [.Name x p1, .Name y p2] c0 tp] X.env)).any (·.1) = false := by rfl)
    (s3 : starEach [.Name x p1, .Name y p2] X.env = (false, eval (.Name x p1) X.env) :: starEach [.Name y p2] X.env := by rfl) (s4 : starEach [.Name y p2] X.env = (false, eval (.Name y p2) X.env) :: starEach [] X.env := by rfl) :
    DPE X K W (.Call (.Name "isinstance" p) [e, .Tuple [.Name x p1, .Name y p2] c0 tp] [] pos) (tCB (rIsiT K) (tCons te (tCons (tTup (tCons (tC (.ty n.nm)) (tCons (tC (.ty m.nm)) tNil))) tNil))) (dIsi2 cs n m t) :=
  ⟨h.k, by have hk := h.k; subst hk; exact pe_callB call_isiT hg hm (by decide +kernel) (pa_cons h.pe (pa_cons (pe_tup (pa_cons (pe_bltn hgx hmx hvx rfl hn hdb) (pa_cons (pe_bltn hgy hmy hvy rfl hn' hdb') pa_nil s4) s3)) pa_nil s2) s1) (by decide) (by decide) s1 hpl, fun a B0 H0 s σ B H E P Q R L ht k =>
    h.sn a B0 H0 s σ B H E _ _ R L ht fun d s1 v B1 H1 f em q => by
      obtain ⟨sh, eb⟩ := emb_sh hc q.1 em
      refine ⟨by show 2 ≤ sizeLine; decide, fun pp hp => ?_⟩
      have g := Stp.cell (W := No) (o := .tup [.ty n.nm, .ty m.nm]) f.rel.gr.bh hp
      refine i_isiT2 g.bh sh upd_same ?_ n.nm_in m.nm_in
      rw [eb, eb]
      exact k _ s1 _ B1 _ (f.trans (.pure f.rel g)) emb_bl q.2⟩
/-! ### own lists -/
def Sl.isL : Sl → Bool
  | .own _ => true
  | _ => false
theorem Sl.isL_own {sl : Sl} (h : sl.isL = true) : ∃ xs, sl = .own xs := by cases sl <;> first | exact ⟨_, rfl⟩ | cases h
def ownP (sl : Sl) (P : List D → Prop) : Prop := match sl with
  | .own xs => P xs
  | _ => False
theorem ownP_own {sl : Sl} {P : List D → Prop} (h : ownP sl P) : ∃ xs, sl = .own xs ∧ P xs := by cases sl <;> first | exact ⟨_, rfl, h⟩ | exact h.elim
/-- a method of an own list that writes it and gives nothing -/
def dMut (rd : List D → D → (List D → Prop) → Prop) (i : Nat) (t : DE) : DE := fun s E P => (gS s i).isL = true ∧ t s E fun d s1 => ownP (gS s1 i) fun xs => rd xs d fun ys => P .non (s1.set i (.own ys))
/-- what such a method asks -/
def LMut (K : PySem.W.Frag) (r : V → List V → Hp → VK → Prop) (rd : List D → D → (List D → Prop) → Prop) : Prop := ∀ (a : Addr) (B H : Hp) (p : Addr) (xs : List D) (us : List V) (d : D) (v : V) (P : List D → Prop) (Q : VK), Same B H → H p = some (.lst us) → EmbL K a B xs us → Emb K a B d v → rd xs d P →
  (∀ ys ws, EmbL K a B ys ws → P ys → Q .non (upd H p (.lst ws))) → r (.ref p) [v] H Q
theorem snd_mut {r : V → List V → Hp → VK → Prop} {rd : List D → D → (List D → Prop) → Prop} {i : Nat} (l : LMut K r rd) (h : Snd K W (RE K) te t) : Snd K W (RE K) (tBM K "list" r (tVar i) (tCons te tNil)) (dMut rd i t) := fun a B0 H0 s σ B H E P Q R L ⟨hi, ht⟩ k => by
  obtain ⟨xs0, e0⟩ := Sl.isL_own hi
  have h0 := R.slot i
  rw [e0] at h0
  obtain ⟨p, us0, ep, hp0, _, _, _⟩ := h0
  refine ⟨.ref p, join_some ep, tyL hp0, h a B0 H0 s σ B H E _ _ R L ht fun d s1 v B1 H1 f ev q => ?_⟩
  obtain ⟨xs, e1, q1⟩ := ownP_own q
  have h1 := f.rel.slot i
  rw [e1] at h1
  obtain ⟨p', us, ep', hp, hB, h0', em⟩ := h1
  rw [ep] at ep'
  cases ep'
  refine l a B1 H1 p xs us d v _ _ f.rel.gr.bh hp em ev q1 fun ys ws e2 pq => ?_
  exact k .non _ _ B1 _ (f.trans (.put (sl := .own ys) f.rel (by rw [e1]; rfl) (join_some ep) (Stp.set f.rel.gr.bh hB rfl) ⟨p, ws, rfl, upd_same, hB, h0', e2⟩)) emb_non pq
def appD : List D → D → (List D → Prop) → Prop := fun xs d P => xs.length < sizeLine ∧ P (xs ++ [d])
theorem l_app : LMut K rAppend appD := fun a B H p xs us d v P Q s hp em ev r k => ⟨p, us, v, rfl, rfl, hp, by rw [em.length]; exact r.1, k _ _ (em.append (.cons ev .nil)) r.2⟩
def extTD : List D → D → (List D → Prop) → Prop := fun xs d P => match d with
  | .tup ys => xs.length + ys.length ≤ sizeLine ∧ P (xs ++ ys)
  | _ => False
def extLD : List D → D → (List D → Prop) → Prop := fun xs d P => match d with
  | .lst ys => xs.length + ys.length ≤ sizeLine ∧ P (xs ++ ys)
  | _ => False
theorem l_extT : LMut K (rExtT K) extTD := fun a B H p xs us d v P Q s hp em ev r k => by
  unfold extTD at r
  split at r
  · obtain ⟨q, ws, rfl, hq, ew⟩ := Emb.tup ev
    exact ⟨p, q, us, ws, rfl, rfl, hp, SqT.of (s _ _ hq), by rw [em.length, ew.length]; exact r.1, k _ _ (em.append ew) r.2⟩
  · exact r.elim
theorem l_extL : LMut K rExtend extLD := fun a B H p xs us d v P Q s hp em ev r k => by
  unfold extLD at r
  split at r
  · obtain ⟨q, ws, rfl, hq, ew⟩ := Emb.lst ev
    exact ⟨p, q, us, ws, rfl, rfl, hp, s _ _ hq, by rw [em.length, ew.length]; exact r.1, k _ _ (em.append ew) r.2⟩
  · exact r.elim
variable {x : Str} {p1 p2 cpos : Pos} {i : Nat}
theorem de_mut {name : Str} {id : String} {r : V → List V → Hp → VK → Prop} {rd : List D → D → (List D → Prop) → Prop} (pa : PlainAttrs "list") (slot : Slot "list" name id) (hty : typeOf (.builtin id) = pure (.type "method_descriptor")) (hmt : MtM X id r) (l : LMut K r rd) (ho : PE X (.Name x p1) (tVar i)) (h : DPE X K W e te t)
    (hs : starEach [e] X.env = (false, eval e X.env) :: starEach [] X.env := by rfl)
    (hbase : attributeBase (.Name x p1) name X.env (eval (.Name x p1) X.env) = eval (.Name x p1) X.env := by rfl)
    (hfew : ((backTo cpos (starEach [e] X.env)).all (fun x => !x.1) && (backToKw cpos (keywordEach [] X.env)).all (fun x => x.1.isSome)
      && decide ([e].length + ([] : List Keyword).length + (if ([] : List Keyword).isEmpty then 0 else 1) < 30)) = true := by rfl) (hline : (p2.endLine == cpos.line) = true := by rfl) :
    DPE X K W (.Call (.Attribute (.Name x p1) name p2) [e] [] cpos) (tBM K "list" r (tVar i) (tCons te tNil)) (dMut rd i t) :=
  ⟨h.k, by have hk := h.k; subst hk; exact pe_bm pa slot hty hmt ho (pa_cons h.pe pa_nil hs) hbase hfew (hs := hs) (hline := hline), snd_mut l h.sn⟩
/-- xs.pop() -/
def dPop (i : Nat) : DE := fun s _ P => ownP (gS s i) fun xs => match xs[xs.length - 1]? with
  | some d => P d (s.set i (.own xs.dropLast))
  | none => False
theorem snd_pop {i : Nat} : Snd K W (RE K) (tBM0 K "list" rPop (tVar i)) (dPop i) := fun a B0 H0 s σ B H E P Q R L ht k => by
  obtain ⟨xs, e1, q⟩ := ownP_own ht
  have h1 := R.slot i
  rw [e1] at h1
  obtain ⟨p, us, ep, hp, hB, h0', em⟩ := h1
  split at q
  · rename_i d hd
    obtain ⟨w, hw, ew⟩ := em.get hd
    refine ⟨.ref p, join_some ep, tyL hp, p, us, w, rfl, rfl, hp, by rw [em.length]; exact hw, ?_⟩
    exact k d _ w B _ (.put (sl := .own xs.dropLast) R (by rw [e1]; rfl) (join_some ep) (Stp.set R.gr.bh hB rfl) ⟨p, _, rfl, upd_same, hB, h0', em.dropLast⟩) ew q
  · exact q.elim
theorem de_pop (ho : PE X (.Name x p1) (tVar i)) (hK : X.K = K := by rfl) (hbase : attributeBase (.Name x p1) "pop" X.env (eval (.Name x p1) X.env) = eval (.Name x p1) X.env := by rfl) (hline : (p2.endLine == cpos.line) = true := by rfl) :
    DPE X K W (.Call (.Attribute (.Name x p1) "pop" p2) [] [] cpos) (tBM0 K "list" rPop (tVar i)) (dPop i) :=
  ⟨hK, by subst hK; exact pe_bm0 PySem.F.plainAttrs_list PySem.F.slot_list_pop PySem.F.type_list_pop mt_pop ho hbase hline, snd_pop⟩
/-- xs.pop(j) -/
def dPopAt (i : Nat) (t : DE) : DE := fun s E P => (gS s i).isL = true ∧ t s E fun d s1 => ownP (gS s1 i) fun xs => match d with
  | .int j => (-(2 ^ 63) ≤ j ∧ j < 2 ^ 63) ∧ (match seqIndex? j xs.length with
    | some k => (match xs[k]? with
      | some y => P y (s1.set i (.own (xs.eraseIdx k)))
      | none => False)
    | none => False)
  | _ => False
theorem snd_popAt {i : Nat} (h : Snd K W (RE K) te t) : Snd K W (RE K) (tBM K "list" rPopAt (tVar i) (tCons te tNil)) (dPopAt i t) := fun a B0 H0 s σ B H E P Q R L ⟨hi, ht⟩ k => by
  obtain ⟨xs0, e0⟩ := Sl.isL_own hi
  have h0 := R.slot i
  rw [e0] at h0
  obtain ⟨p, us0, ep, hp0, _, _, _⟩ := h0
  refine ⟨.ref p, join_some ep, tyL hp0, h a B0 H0 s σ B H E _ _ R L ht fun d s1 v B1 H1 f ev q => ?_⟩
  obtain ⟨xs, e1, q1⟩ := ownP_own q
  have h1 := f.rel.slot i
  rw [e1] at h1
  obtain ⟨p', us, ep', hp, hB, h0', em⟩ := h1
  rw [ep] at ep'
  cases ep'
  cases d with
  | int j =>
    cases Emb.int ev
    obtain ⟨⟨b1, b2⟩, q1⟩ := q1
    cases hk : seqIndex? j xs.length with
    | none => rw [hk] at q1; exact q1.elim
    | some kk =>
      rw [hk] at q1
      dsimp only at q1
      cases hy : xs[kk]? with
      | none => rw [hy] at q1; exact q1.elim
      | some y =>
        rw [hy] at q1
        obtain ⟨w, hw, ew⟩ := em.get hy
        exact ⟨p, us, j, kk, w, rfl, rfl, hp, b1, b2, by rw [em.length]; exact hk, hw, k y _ w B1 _ (f.trans (.put (sl := .own (xs.eraseIdx kk)) f.rel (by rw [e1]; rfl) (join_some ep) (Stp.set f.rel.gr.bh hB rfl) ⟨p, _, rfl, upd_same, hB, h0', em.eraseIdx kk⟩)) ew q1⟩
  | _ => exact q1.elim
theorem de_popAt (ho : PE X (.Name x p1) (tVar i)) (h : DPE X K W e te t) (hs : starEach [e] X.env = (false, eval e X.env) :: starEach [] X.env := by rfl)
    (hbase : attributeBase (.Name x p1) "pop" X.env (eval (.Name x p1) X.env) = eval (.Name x p1) X.env := by rfl)
    (hfew : ((backTo cpos (starEach [e] X.env)).all (fun x => !x.1) && (backToKw cpos (keywordEach [] X.env)).all (fun x => x.1.isSome)
      && decide ([e].length + ([] : List Keyword).length + (if ([] : List Keyword).isEmpty then 0 else 1) < 30)) = true := by rfl) (hline : (p2.endLine == cpos.line) = true := by rfl) :
    DPE X K W (.Call (.Attribute (.Name x p1) "pop" p2) [e] [] cpos) (tBM K "list" rPopAt (tVar i) (tCons te tNil)) (dPopAt i t) :=
  ⟨h.k, by have hk := h.k; subst hk; exact pe_bm PySem.F.plainAttrs_list PySem.F.slot_list_pop PySem.F.type_list_pop mt_popAt ho (pa_cons h.pe pa_nil hs) hbase hfew (hs := hs) (hline := hline), snd_popAt h.sn⟩
/-- xs[j] = e -/
def dSetIt (i : Nat) (tj te : DE) : DS := fun D s => te s D.ex fun d s1 => (gS s1 i).isL = true ∧ tj s1 D.ex fun j s2 => ownP (gS s2 i) fun xs => match j with
  | .int k => (match ixN xs.length k with
    | some n => D.nx (s2.set i (.own (xs.set n d)))
    | none => False)
  | _ => False
theorem ds_setIt {ej : Expr} {tj : TE} {dj : DE} {sp : Pos} (ho : PE X (.Name x p1) (tVar i)) (he : DPE X K W e te t) (hj : DPE X K W ej tj dj) (hs : swapsWithSole [.Subscript (.Name x p1) ej sp] e pos.line X.env = pure false := by rfl) (hw : swappedStores [.Subscript (.Name x p1) ej sp] e X.env = pure none := by rfl)
    (h1 : (assignEach [.Subscript (.Name x p1) ej sp] X.env).map (·.2) = [assign (.Subscript (.Name x p1) ej sp) X.env] := by rfl) (hg : PG X (.Subscript (.Name x p1) ej sp) (gSub (tVar i) tj rSetL)) :
    DPS X K W (.Assign [.Subscript (.Name x p1) ej sp] e pos) (tAsg te (gSub (tVar i) tj rSetL)) (dSetIt i dj t) :=
  ⟨he.k, ps_asg he.pe hg hs hw h1, fun a B0 H0 s σ B H D' D R L ok ht =>
    he.sn a B0 H0 s σ B H _ _ _ R L ht fun d s1 v B1 H1 f1 ev q1 => by
      obtain ⟨hi, q1⟩ := q1
      obtain ⟨xs0, e0⟩ := Sl.isL_own hi
      have h0 := f1.rel.slot i
      rw [e0] at h0
      obtain ⟨p, us0, ep, _⟩ := h0
      refine ⟨.ref p, join_some ep, hj.sn a B0 H0 s1 σ B1 H1 _ _ _ f1.rel L q1 fun j s2 u B2 H2 f2 ej q2 => ?_⟩
      obtain ⟨xs, e1, q3⟩ := ownP_own q2
      have h1 := f2.rel.slot i
      rw [e1] at h1
      obtain ⟨p', us, ep', hp, hB, h0', em⟩ := h1
      rw [ep] at ep'
      cases ep'
      split at q3
      · cases Emb.int ej
        split at q3
        · rename_i n hn
          exact ⟨p, us, _, n, rfl, rfl, hp, by rw [em.length]; exact hn, ok.nx _ _ B2 _ (f2.rel.put (sl := .own (xs.set n d)) (by rw [e1]; rfl) (join_some ep) (Stp.set f2.rel.gr.bh hB rfl) ⟨p, _, rfl, upd_same, hB, h0', em.set (ev.mono f2.stp.bb) n⟩) (f1.stp.bb.trans f2.stp.bb) q3⟩
        · exact q3.elim
      · exact q3.elim⟩
/-! ### x += e of numbers -/
def dAug (rd : D → D → (D → Prop) → Prop) (i : Nat) (t : DE) : DS := fun D s => match gS s i with
  | .val x => t s D.ex fun y s1 => rd x y fun z => D.nx (s1.set i (.val z))
  | _ => False
theorem snd_aug {f : Int → Int → Int} (h : Snd K W (RE K) te t) : SndS K W (tAug i te (ipI f)) (dAug (i2 fun a b => .int (f a b)) i t) := fun a B0 H0 s σ B H D' D R L ok ht => by
  unfold dAug at ht
  have h0 := R.slot i
  split at ht
  · rename_i d hd
    rw [hd] at h0
    obtain ⟨v, ev, em⟩ := h0
    refine ⟨v, join_some ev, h a B0 H0 s σ B H _ _ _ R L ht fun y s1 u B1 H1 f1 eu q => ?_⟩
    unfold i2 at q
    split at q
    · cases Emb.int em
      cases Emb.int eu
      exact ⟨_, _, rfl, rfl, ok.nx _ _ B1 H1 (f1.rel.store (sl := .val (.int _)) ⟨_, rfl, emb_int⟩ fun p z => (nomatch z)) f1.stp.bb q⟩
    · exact q.elim
  · exact ht.elim
theorem ds_aug {op : Operator} {f : Int → Int → Int} {pos' : Pos} (hN : X.N.Nodup) (hi : X.N[i]? = some x) (hx : Loc X.env.scope x) (he : DPE X K W e te t) (ho : PIp X op (ipI f)) (hf : X.fn x = true ∨ X.env.scope.names.lookup x = some .local := by first | exact .inl rfl | exact .inr rfl | assumption) :
    DPS X K W (.AugAssign (.Name x pos') op e pos) (tAug i te (ipI f)) (dAug (i2 fun a b => .int (f a b)) i t) := ⟨he.k, ps_aug hN hi hx he.pe ho hf, snd_aug he.sn⟩
end
end Dl
set_option maxRecDepth 100000
set_option maxHeartbeats 2000000
/-! enumerate of a tuple -/
namespace Us
open PySem PySem.Spec PyProof.Rows L2
open PySem.AutoSeq1 (wpAny_loadPart') in
theorem enum_new_tup (t : Addr) (itms : Array Value) (m : Nat) (dq : Option Addr) (sq : Array (Option Value)) : Meets (Builtin.«enumerate.__new__» ⟨[.type "enumerate", .ref t], []⟩)
    (fun _ R s => s.heap.get? t = some ⟨.type "tuple", dq, .seq itms m, sq⟩ ∧
      R (.ok (.ret (.ref (s.heap.push { cls := .type "tuple_iterator", data := .fields #[.ref t, .int 0 0] }).objs.size))) { s with heap := (s.heap.push { cls := .type "tuple_iterator", data := .fields #[.ref t, .int 0 0] }).push { cls := .type "enumerate", data := .fields #[.none, .bool false, .ref s.heap.objs.size, rawInt 0, .none, .none] } }) :=
  .of_wp fun prog w A R s h => by
    obtain ⟨hp, gg, dd, tk, os⟩ := s
    obtain ⟨ht, hR⟩ := h
    have he := sub_enumerate
    have hT : Heap.IsTuple (Shared.heap ⟨hp, gg, dd, tk, os⟩) t itms := ⟨_, ht, rfl, m, rfl⟩
    wp_walk using wpAny_loadPart' ht
    refine wpAny_stack_any fun _ => (wpAny_pure ?_)
    split
    · rename_i c _ _ _ _ _
      cases (c == Value.type "enumerate") <;> (wp_walk using wpAny_loadPart' ht, wpAny_pyIter_tuple hT; exact ⟨_, rfl, hR⟩)
    · wp_walk using wpAny_loadPart' ht, wpAny_pyIter_tuple hT; exact ⟨_, rfl, hR⟩
section
variable {prog : Program} {w : World} {A : Around} {E : Value → Shared → Prop} {s : Shared}
theorem call_enum_tup {t : Addr} {itms : Array Value} {Q : Value → Shared → Prop} (hT : s.heap.IsTuple t itms)
    (h : ∀ h', IsEnum h' (s.heap.objs.size + 1) s.heap.objs.size 0 .none → h'.IsTupleIter s.heap.objs.size t 0 → (∀ b o, s.heap.get? b = some o → h'.get? b = some o) → Q (.ref (s.heap.objs.size + 1)) { s with heap := h' }) :
    wpAny (model prog w) A (call (.type "enumerate") [.ref t]) Q E s := by
  obtain ⟨⟨c, dq, dt, sq⟩, ht, hc, m, hd⟩ := hT
  dsimp only at hc hd
  subst hc hd
  refine callType_new F.called_enumerate (by decide) (F.typeCall_enumerate_1 _) (F.newCall_enumerate_1 _) (fun ob => F.args_object_init_2 ob _) F.entry_enumerate_new (enum_new_tup t itms m dq sq) ⟨ht, ?_⟩
  have z1 : (s.heap.push { cls := .type "tuple_iterator", data := .fields #[.ref t, .int 0 0] }).objs.size = s.heap.objs.size + 1 := Heap.size_push ..
  have key := Heap.get?_push_size (s.heap.push { cls := .type "tuple_iterator", data := .fields #[.ref t, .int 0 0] }) (o := { cls := .type "enumerate", data := .fields #[.none, .bool false, .ref s.heap.objs.size, rawInt 0, .none, .none] }) rfl
  rw [z1] at key
  show _ ∧ _
  rw [z1]
  exact ⟨⟨_, key, rfl⟩, h _ key ⟨_, Heap.get?_push_of_some _ (Heap.get?_push_size _ rfl), rfl, rfl⟩ fun b o x => Heap.get?_push_of_some _ (Heap.get?_push_of_some _ x)⟩
end
def IteT (K : PySem.W.Frag) (a : Addr) : It :=
  ⟨fun i H => ∃ (xs : List V) (x : V), SqT K H a xs ∧ xs[i]? = some x, fun i H v H' => ∃ T x, v = .ref T ∧ H T = none ∧ H' = upd H T (.tup [.int (i : Nat), x]) ∧ ∀ xs, SqT K H a xs → xs[i]? = some x, fun i H => ∃ xs : List V, SqT K H a xs ∧ xs.length = i⟩
theorem Heap_IsTupleIter_at {h h' : Heap} {a t : Addr} {i : Nat} (x : h.IsTupleIter a t i) (k : ∀ o, h.get? a = some o → h'.get? a = some o) : h'.IsTupleIter a t i := by
  obtain ⟨o, e, r⟩ := x
  exact ⟨o, k o e, r⟩
theorem turn_enumT {P : Program} {w : World} {K : PySem.W.Frag} {es : List Expr} {c0 : Nat} {tp : Pos} (a e it : Addr) :
    Turn P w K (.Tuple es c0 tp) (IteT K a) [e, it] e (fun i h => (∃ old, IsEnum h e it ((i : Nat) : Int) old) ∧ h.IsTupleIter it a i ∧ e ≠ it ∧ e ≠ a) where
  mem := by simp
  obj := by
    rintro i h ⟨⟨old, he⟩, ⟨o, ho, _, hd⟩, _⟩ b hb
    simp only [List.mem_cons, List.not_mem_nil, or_false] at hb
    rcases hb with rfl | rfl
    · exact ⟨_, he, fun v q => nomatch q⟩
    · exact ⟨o, ho, fun v q => (by rw [hd] at q; cases q)⟩
  keep := by
    rintro i h h' ⟨⟨old, he⟩, hi, hne⟩ k
    exact ⟨⟨old, k e (by simp) _ he⟩, Heap_IsTupleIter_at hi (k it (by simp)), hne⟩
  item := by
    rintro X rfl rfl rfl hc i pins s σ H E I hf ⟨⟨old, he⟩, hit, hne, hea⟩ ⟨xs, x, hq, hx⟩
    obtain ⟨its, rv, hT, hz⟩ := I.tuple hq
    obtain ⟨u, hu, ru⟩ := rv.get hx
    have hnt : a ≠ it := by
      rintro rfl
      obtain ⟨o, ho, oc, _⟩ := hT
      obtain ⟨o', ho', oc', _⟩ := hit
      rw [ho] at ho'
      cases ho'
      rw [oc] at oc'
      exact absurd (Value.type.inj oc') (by decide)
    have le : e < s.heap.objs.size := Heap.lt_size he
    have li : it < s.heap.objs.size := (fun ⟨_, q, _⟩ => Heap.lt_size q) hit
    have hiu : its.toArray[i]? = some u := by simpa using hu
    have hlt : i < its.toArray.size := (Array.getElem?_eq_some_iff.mp hiu).1
    refine wpAny_pyNext_enum_itemD (Draws.tuple (show X.A.in1.handled = none from I.ok.hd hc) it a hnt its.toArray) he ⟨hit, hT⟩ hlt hne (by simp [hne, hea]) ?_
    intro y h' tk hy ho st' hN hsz hk
    have ey : y = u := Option.some.inj (hy.symm.trans hiu)
    subst ey
    refine ⟨_, rfl, wpAny_letOwnedTupleGo_enum (s := ⟨h', s.gens, s.drawn, tk + 1, s.os⟩) ho fun h2 he2 sb => ?_⟩
    have hN2 := (sb.2 _ (Nat.ne_of_gt le)).trans hN
    have nw : ObjOk X.prog X.w (upd H s.heap.objs.size (.tup [.int (i : Nat), x])) h2 s.heap.objs.size (.tup [.int (i : Nat), x]) := ⟨(by show 2 ≤ sizeLine; decide), _, .cons ⟨_, rfl⟩ (.cons ru .nil), ⟨_, hN2, rfl, _, rfl⟩⟩
    have I2 := I.turnedNew (t' := tk + 1) (h' := h2) (ch := [e, it]) (fun b ob hb q => by
      have n1 : b ≠ e := fun z => hb (by simp [z])
      have n2 : b ≠ it := fun z => hb (by simp [z])
      exact (sb.2 b n1).trans (hk b ob n1 n2 q)) hf (Nat.le_refl _) nw
    refine ⟨.ref s.heap.objs.size, _, I2, rfl, ⟨_, x, rfl, I.hok.fresh (Nat.le_refl _), rfl, fun ys hy => (I.tuple_inj hy hq) ▸ hx⟩, ⟨⟨y, ?_⟩, Heap_IsTupleIter_at st'.1 (fun o q => (sb.2 it (Ne.symm hne)).trans q), hne, hea⟩, fun b hb => ?_⟩
    · rw [show (((i + 1 : Nat)) : Int) = (i : Int) + 1 by omega]
      exact he2
    · have lb : b < s.heap.objs.size := by
        simp only [List.mem_cons, List.not_mem_nil, or_false] at hb
        rcases hb with rfl | rfl
        · exact le
        · exact li
      exact (upd_ne (Nat.ne_of_lt lb)).trans (hf b hb).1
  done := by
    rintro X rfl rfl rfl hc i pins s σ H E I hf ⟨⟨old, he⟩, hit, hne, hea⟩ ⟨xs, hq, hx⟩
    obtain ⟨its, rv, hT, hz⟩ := I.tuple hq
    have hnt : a ≠ it := by
      rintro rfl
      obtain ⟨o, ho, oc, _⟩ := hT
      obtain ⟨o', ho', oc', _⟩ := hit
      rw [ho] at ho'
      cases ho'
      rw [oc] at oc'
      exact absurd (Value.type.inj oc') (by decide)
    have ei : i = its.toArray.size := by
      have := rv.length
      simp only [List.size_toArray]
      omega
    obtain ⟨f0, f1, f2, f3, f4, f5⟩ := hf it (by simp)
    refine wpAny_pyNext_enum_endD (n := its.toArray.size) (Draws.tuple (show X.A.in1.handled = none from I.ok.hd hc) it a hnt its.toArray) he ⟨ei ▸ hit, hT⟩ fun h2 eb => ?_
    exact ⟨rfl, I.turned (t' := s.toks) (fun b o hb q => eb b o hb q) f0 f1 f3 f4 f5⟩
  self := by
    rintro A i s Q E ⟨⟨_, he⟩, _⟩ h
    exact wpAny_pyIter_enum he h
def iEnumT (K : PySem.W.Frag) (ta : TA) : TI := fun σ H R => ta σ H fun vs H1 => ∃ a xs, vs = [.ref a] ∧ SqT K H1 a xs ∧ R (IteT K a) H1
theorem pi_enumT {X : Cx} {e : Expr} {ta : TA} {p pos tp : Pos} {es : List Expr} {c0 : Nat} (hg : Gl X "enumerate") (hm : X.mg "enumerate" = none) (ha : PA X [e] ta) (hs : starEach [e] X.env = [(false, eval e X.env)] := by rfl) :
    PI X (.Tuple es c0 tp) (.Call (.Name "enumerate" p) [e] [] pos) (iEnumT X.K ta) := by
  constructor
  intro pins s σ H R I h
  refine Call_ (ld_blt I hg hm boot_enumerate (PyProof.Rows.callWith_type1 (thn (ha.run pos pins s σ H _ I h) ?_) hs rfl))
  rintro us s1 ⟨vs, H1, I1, r1, a, xs, rfl, hq, q⟩
  cases r1 with
  | cons r rr =>
    cases rr
    cases r
    obtain ⟨its, rv, hT, hz⟩ := I1.tuple hq
    have ha : a < s1.heap.objs.size := by
      obtain ⟨o, ho, _⟩ := hT
      exact Heap.lt_size ho
    refine call_enum_tup hT fun h2 he hit hk => wpAny_pyIter_enum he ?_
    have I2 : Inv X pins σ H1 { s1 with heap := h2 } := I1.kept (t' := s1.toks) hk
    refine ⟨_, [s1.heap.objs.size + 1, s1.heap.objs.size], _, _, H1, rfl, I2, turn_enumT a (s1.heap.objs.size + 1) s1.heap.objs.size, ⟨⟨.none, he⟩, hit, Nat.succ_ne_self _, Nat.ne_of_gt (Nat.lt_succ_of_lt ha)⟩, fun b hb => ?_, q⟩
    have lb : s1.heap.objs.size ≤ b := by
      simp only [List.mem_cons, List.not_mem_nil, or_false] at hb
      rcases hb with rfl | rfl
      · exact Nat.le_add_right _ _
      · exact Nat.le_refl _
    exact I1.fpOk lb (I1.hok.fresh lb)
end Us
set_option maxRecDepth 100000
set_option maxHeartbeats 2000000
namespace Dl
open PySem PySem.Spec PyProof.Rows L2 Us
section
variable {X : Cx} {K : PySem.W.Frag} {W : WX} {pos : Pos} {x y : Expr} {ea eb : TE} {ta tb : DE} {i : Nat} {nm : Str} {p1 : Pos}
/-! ### subscripts -/
theorem ix_k (h : X.K = K) : IxR X (rIx K) := by subst h; exact ix_seq
theorem de_ix (ha : DPE X K W x ea ta) (hb : DPE X K W y eb tb) (hs : PlainIx y := by first | exact fun _ _ => rfl) : DPE X K W (.Subscript x y pos) (tOp (rIx K) ea eb) (dOp ixD ta tb) := ⟨ha.k, pe_ix (ix_k ha.k) ha.pe hb.pe hs, snd_op l_ix.op ha.sn hb.sn⟩
theorem de_ixV (ho : PE X (.Name nm p1) (tVar i)) (hb : DPE X K W y eb tb) (hs : PlainIx y := by first | exact fun _ _ => rfl) : DPE X K W (.Subscript (.Name nm p1) y pos) (tOp (rIx K) (tVar i) eb) (dOpL ixD i tb) := ⟨hb.k, pe_ix (ix_k hb.k) ho hb.pe hs, snd_opL l_ix hb.sn⟩
/-! ### built-ins of one thing -/
section
variable {f : Str} {id T : String} {r : List V → Hp → VK → Prop} {rd : D → (D → Prop) → Prop} {rdn : D → (List D → Prop) → Prop} {p : Pos} {e : Expr} {te : TE} {t : DE}
theorem de_b1 (hc : CallR X (.builtin id) r) (l : LCallP K r rd) (hm : X.mg f = none) (h : DPE X K W e te t) (hg : Gl X f := by rfl) (hv : bootBuiltins f = some (.builtin id) := by decide +kernel) (hn : f ≠ "__name__" := by decide) (hdb : (f == ("__debug__" : Str)) = false := by decide)
    (he : starEach [e] X.env = (false, eval e X.env) :: starEach [] X.env := by rfl) (hpl : (backTo pos (starEach [] X.env)).any (·.1) = false := by rfl) : DPE X K W (.Call (.Name f p) [e] [] pos) (tCB r (tCons te tNil)) (dCB (c1 rd) (dCons t dNil)) :=
  ⟨h.k, pe_callB hc hg hm hv (pa_cons h.pe pa_nil he) hn hdb he hpl, snd_cb l.call (da_cons h (da_nil h.k) he).sn⟩
theorem de_b1V (hc : CallR X (.builtin id) r) (l : LCallP K r rd) (hm : X.mg f = none) (ho : PE X (.Name nm p1) (tVar i)) (hK : X.K = K := by rfl) (hg : Gl X f := by rfl) (hv : bootBuiltins f = some (.builtin id) := by decide +kernel) (hn : f ≠ "__name__" := by decide) (hdb : (f == ("__debug__" : Str)) = false := by decide)
    (he : starEach [.Name nm p1] X.env = (false, eval (.Name nm p1) X.env) :: starEach [] X.env := by rfl) (hpl : (backTo pos (starEach [] X.env)).any (·.1) = false := by rfl) : DPE X K W (.Call (.Name f p) [.Name nm p1] [] pos) (tCB r (tCons (tVar i) tNil)) (dCallP rd i) :=
  ⟨hK, pe_callB hc hg hm hv (pa_cons ho pa_nil he) hn hdb he hpl, snd_callP l⟩
theorem de_t1 (hc : CallR X (.type T) r) (l : LCallP K r rd) (hm : X.mg f = none) (h : DPE X K W e te t) (hg : Gl X f := by rfl) (hv : bootBuiltins f = some (.type T) := by decide +kernel) (hn : f ≠ "__name__" := by decide) (hdb : (f == ("__debug__" : Str)) = false := by decide)
    (he : starEach [e] X.env = (false, eval e X.env) :: starEach [] X.env := by rfl) (hpl : (backTo pos (starEach [] X.env)).any (·.1) = false := by rfl) : DPE X K W (.Call (.Name f p) [e] [] pos) (tCB r (tCons te tNil)) (dCB (c1 rd) (dCons t dNil)) :=
  ⟨h.k, pe_callTy hc hg hm hv (pa_cons h.pe pa_nil he) hn hdb he hpl, snd_cb l.call (da_cons h (da_nil h.k) he).sn⟩
theorem de_t1V (hc : CallR X (.type T) r) (l : LCallP K r rd) (hm : X.mg f = none) (ho : PE X (.Name nm p1) (tVar i)) (hK : X.K = K := by rfl) (hg : Gl X f := by rfl) (hv : bootBuiltins f = some (.type T) := by decide +kernel) (hn : f ≠ "__name__" := by decide) (hdb : (f == ("__debug__" : Str)) = false := by decide)
    (he : starEach [.Name nm p1] X.env = (false, eval (.Name nm p1) X.env) :: starEach [] X.env := by rfl) (hpl : (backTo pos (starEach [] X.env)).any (·.1) = false := by rfl) : DPE X K W (.Call (.Name f p) [.Name nm p1] [] pos) (tCB r (tCons (tVar i) tNil)) (dCallP rd i) :=
  ⟨hK, pe_callTy hc hg hm hv (pa_cons ho pa_nil he) hn hdb he hpl, snd_callP l⟩
theorem dn_b1 (hc : CallR X (.builtin id) r) (l : LCallPN K r rdn) (hm : X.mg f = none) (h : DPE X K W e te t) (hg : Gl X f := by rfl) (hv : bootBuiltins f = some (.builtin id) := by decide +kernel) (hn : f ≠ "__name__" := by decide) (hdb : (f == ("__debug__" : Str)) = false := by decide)
    (he : starEach [e] X.env = (false, eval e X.env) :: starEach [] X.env := by rfl) (hpl : (backTo pos (starEach [] X.env)).any (·.1) = false := by rfl) : DPN X K W (.Call (.Name f p) [e] [] pos) (tCB r (tCons te tNil)) (dCBN (c1 rdn) (dCons t dNil)) :=
  ⟨h.k, pe_callB hc hg hm hv (pa_cons h.pe pa_nil he) hn hdb he hpl, snd_cbN l.call (da_cons h (da_nil h.k) he).sn⟩
theorem dn_t1 (hc : CallR X (.type T) r) (l : LCallPN K r rdn) (hm : X.mg f = none) (h : DPE X K W e te t) (hg : Gl X f := by rfl) (hv : bootBuiltins f = some (.type T) := by decide +kernel) (hn : f ≠ "__name__" := by decide) (hdb : (f == ("__debug__" : Str)) = false := by decide)
    (he : starEach [e] X.env = (false, eval e X.env) :: starEach [] X.env := by rfl) (hpl : (backTo pos (starEach [] X.env)).any (·.1) = false := by rfl) : DPN X K W (.Call (.Name f p) [e] [] pos) (tCB r (tCons te tNil)) (dCBN (c1 rdn) (dCons t dNil)) :=
  ⟨h.k, pe_callTy hc hg hm hv (pa_cons h.pe pa_nil he) hn hdb he hpl, snd_cbN l.call (da_cons h (da_nil h.k) he).sn⟩
theorem dn_t1V (hc : CallR X (.type T) r) (l : LCallPN K r rdn) (hm : X.mg f = none) (ho : PE X (.Name nm p1) (tVar i)) (hK : X.K = K := by rfl) (hg : Gl X f := by rfl) (hv : bootBuiltins f = some (.type T) := by decide +kernel) (hn : f ≠ "__name__" := by decide) (hdb : (f == ("__debug__" : Str)) = false := by decide)
    (he : starEach [.Name nm p1] X.env = (false, eval (.Name nm p1) X.env) :: starEach [] X.env := by rfl) (hpl : (backTo pos (starEach [] X.env)).any (·.1) = false := by rfl) : DPN X K W (.Call (.Name f p) [.Name nm p1] [] pos) (tCB r (tCons (tVar i) tNil)) (dCallPN rdn i) :=
  ⟨hK, pe_callTy hc hg hm hv (pa_cons ho pa_nil he) hn hdb he hpl, snd_callPN l⟩
end
theorem len_k (h : X.K = K) : CallR X (.builtin "len") (rLenU K) := by subst h; exact call_lenU
theorem all_k (h : X.K = K) (hc : X.calm = true) : CallR X (.builtin "all") (rAll K) := by subst h; exact cr_all hc
theorem any_k (h : X.K = K) (hc : X.calm = true) : CallR X (.builtin "any") (rAny K) := by subst h; exact cr_any hc
theorem list_k (h : X.K = K) : CallR X (.type "list") (rListU K) := by subst h; exact call_listU
theorem tup_k (h : X.K = K) : CallR X (.type "tuple") (rTupU K) := by subst h; exact call_tupU
/-! list(xs), tuple(xs) -/
def lisD : D → (List D → Prop) → Prop := fun x P => match x with
  | .lst xs => P xs
  | .tup xs => P xs
  | _ => False
theorem l_list : LCallPN K (rListU K) lisD := fun a B H x u P Q s ex r k => by
  have hs := RP.seq s ex
  unfold lisD at r
  split at r
  · obtain ⟨p, us, rfl, hp, em⟩ := hs.1 _ rfl
    exact ⟨p, us, rfl, .inl (SqL.of hp), fun l hl => k _ B _ _ (Stp.cell s hl) ⟨l, us, rfl, upd_same, bfresh s hl, hl, em⟩ r⟩
  · obtain ⟨p, us, rfl, hp, em⟩ := hs.2.1 _ rfl
    exact ⟨p, us, rfl, .inr (SqT.of hp), fun l hl => k _ B _ _ (Stp.cell s hl) ⟨l, us, rfl, upd_same, bfresh s hl, hl, em⟩ r⟩
  · exact r.elim
def tupD : D → (D → Prop) → Prop := fun x P => match x with
  | .lst xs => P (.tup xs)
  | .tup xs => P (.tup xs)
  | _ => False
theorem RP.tupv {a : Addr} {Ho B H : Hp} {xs : List D} {v : V} (h : RP K a Ho B H (.tup xs) v) : Emb K a B (.tup xs) v := by
  rcases h with h | ⟨_, _, _, e, _⟩ | ⟨_, _, _, _, e, _⟩
  · exact h
  · cases e
  · cases e
theorem l_tup : LCallP K (rTupU K) tupD := fun a B H x u P Q s ex r k => by
  have hs := RP.seq s ex
  unfold tupD at r
  split at r
  · obtain ⟨p, us, rfl, hp, em⟩ := hs.1 _ rfl
    exact ⟨p, us, rfl, .inl ⟨SqL.of hp, fun l hl => k _ _ _ _ (Stp.new s hl) (emb_tup upd_same (em.mono (Same.new (bfresh s hl)))) r⟩⟩
  · obtain ⟨p, us, rfl, hp, em⟩ := hs.2.1 _ rfl
    exact ⟨p, us, rfl, .inr ⟨SqT.of hp, k _ B H _ (Stp.refl s) ex.tupv r⟩⟩
  · exact r.elim
/-! ### sequences joined, repeated, turned, cut -/
def catL : D → D → (List D → Prop) → Prop := fun x y P => match x, y with
  | .lst xs, .lst ys => xs.length + ys.length ≤ sizeLine ∧ P (xs ++ ys)
  | _, _ => False
def LOpN (K : PySem.W.Frag) (r : R2) (rd : D → D → (List D → Prop) → Prop) : Prop := ∀ (a : Addr) (B H : Hp) (x y : D) (u v : V) (P : List D → Prop) (Q : VK), Same B H → Emb K a B x u → Emb K a B y v → rd x y P →
  (∀ d B' H' w, Stp No B H B' H' → RN K a H B' H' d w → P d → Q w H') → r u v H Q
def dOpN (rd : D → D → (List D → Prop) → Prop) (ta tb : DE) : DA := fun s E P => ta s E fun x s1 => tb s1 E fun y s2 => rd x y fun d => P d s2
theorem snd_opN {r : R2} {rd : D → D → (List D → Prop) → Prop} (l : LOpN K r rd) (ha : Snd K W (RE K) ea ta) (hb : Snd K W (RE K) eb tb) : Snd K W (RN K) (tOp r ea eb) (dOpN rd ta tb) := fun a B0 H0 s σ B H E P Q R L ht k =>
  ha a B0 H0 s σ B H E _ _ R L ht fun x s1 u B1 H1 f1 e1 q1 => hb a B0 H0 s1 σ B1 H1 E _ _ f1.rel L q1 fun y s2 v B2 H2 f2 e2 q2 =>
    l a B2 H2 x y u v _ _ f2.rel.gr.bh (Emb.mono f2.stp.bb e1) e2 q2 fun d B3 H3 w g e3 p => k d s2 w B3 H3 (f1.trans (f2.trans (.pure f2.rel g))) (RN.up (f1.trans f2).stp e3) p
theorem l_cat : LOpN K rCat catL := fun a B H x y u v P Q s ex ey r k => by
  unfold catL at r
  split at r
  · obtain ⟨p, us, rfl, hp, em⟩ := Emb.lst ex
    obtain ⟨q, ws, rfl, hq, en⟩ := Emb.lst ey
    exact ⟨p, q, us, ws, rfl, rfl, s _ _ hp, s _ _ hq, by rw [em.length, en.length]; exact r.1, fun l hl => k _ B _ _ (Stp.cell s hl) ⟨l, _, rfl, upd_same, bfresh s hl, hl, em.append en⟩ r.2⟩
  · exact r.elim
theorem dn_cat (ha : DPE X K W x ea ta) (hb : DPE X K W y eb tb) : DPN X K W (.BinOp x .Add y pos) (tOp rCat ea eb) (dOpN catL ta tb) := ⟨ha.k, pe_op op_cat ha.pe hb.pe, snd_opN l_cat ha.sn hb.sn⟩
def repL : D → D → (List D → Prop) → Prop := fun x y P => match x, y with
  | .lst xs, .int k => (-(2 ^ 63) ≤ k ∧ k < 2 ^ 63 ∧ xs.length * k.toNat ≤ sizeLine) ∧ P (List.replicate k.toNat xs).flatten
  | _, _ => False
theorem EmbL.rep {a : Addr} {B : Hp} {xs : List D} {us : List V} (h : EmbL K a B xs us) : ∀ n, EmbL K a B (List.replicate n xs).flatten (List.replicate n us).flatten
  | 0 => .nil
  | n + 1 => by rw [List.replicate_succ, List.replicate_succ, List.flatten_cons, List.flatten_cons]; exact h.append (h.rep n)
theorem l_rep : LOpN K rRep repL := fun a B H x y u v P Q s ex ey r k => by
  unfold repL at r
  split at r
  · obtain ⟨p, us, rfl, hp, em⟩ := Emb.lst ex
    cases Emb.int ey
    exact ⟨p, _, us, rfl, rfl, s _ _ hp, r.1.1, r.1.2.1, by rw [em.length]; exact r.1.2.2, fun l hl => k _ B _ _ (Stp.cell s hl) ⟨l, _, rfl, upd_same, bfresh s hl, hl, em.rep _⟩ r.2⟩
  · exact r.elim
theorem dn_rep (ha : DPE X K W x ea ta) (hb : DPE X K W y eb tb) : DPN X K W (.BinOp x .Mult y pos) (tOp rRep ea eb) (dOpN repL ta tb) := ⟨ha.k, pe_op op_rep ha.pe hb.pe, snd_opN l_rep ha.sn hb.sn⟩
def catT : D → D → (D → Prop) → Prop := fun x y P => match x, y with
  | .tup xs, .tup ys => xs.length + ys.length ≤ sizeLine ∧ P (.tup (xs ++ ys))
  | _, _ => False
theorem l_catT : LOp K (rCatA K) catT := fun a B H x y u v P Q s ex ey r k => by
  unfold catT at r
  split at r
  · rename_i xs ys
    have ex' := ex
    have ey' := ey
    obtain ⟨p, us, rfl, hp, em⟩ := Emb.tup ex
    obtain ⟨q, ws, rfl, hq, en⟩ := Emb.tup ey
    have l1 := em.length
    have l2 := en.length
    refine ⟨p, q, us, ws, rfl, rfl, SqT.of (s _ _ hp), SqT.of (s _ _ hq), by rw [l1, l2]; exact r.1, fun h0 => ?_, fun _ h0 => ?_, fun _ _ l hl => k _ _ _ _ (Stp.new s hl) (emb_tup upd_same ((em.append en).mono (Same.new (bfresh s hl)))) r.2⟩
    · have : xs = [] := List.eq_nil_of_length_eq_zero (by rw [← l1, h0]; rfl)
      subst this
      exact k _ B H _ (Stp.refl s) ey' r.2
    · have : ys = [] := List.eq_nil_of_length_eq_zero (by rw [← l2, h0]; rfl)
      subst this
      rw [List.append_nil] at r
      exact k _ B H _ (Stp.refl s) ex' r.2
  · exact r.elim
theorem catA_k (h : X.K = K) : OpR X (binaryOp .Add) (rCatA K) := by subst h; exact op_catA
def revT (t : DE) : DE := fun s E P => t s E fun d s1 => match d with
  | .tup xs => P (.tup xs.reverse) s1
  | _ => False
theorem de_revT {c0 : Nat} {p1 p2 p3 : Pos} (h : DPE X K W x ea ta) : DPE X K W (.Subscript x (.Slice none none (some (.UnaryOp .USub (.Constant (.int 1) c0 p1) p2)) p3) pos) (tRevT K ea) (revT ta) :=
  ⟨h.k, by have hk := h.k; subst hk; exact pe_revT h.pe, fun a B0 H0 s σ B H E P Q R L ht k => h.sn a B0 H0 s σ B H E _ _ R L ht fun d s1 v B1 H1 f em q => by
    cases d with
    | tup xs =>
      obtain ⟨p, us, rfl, hp, r⟩ := Emb.tup em
      exact ⟨p, us, rfl, SqT.of (f.rel.gr.bh _ _ hp), fun l hl => k _ s1 _ _ _ (f.trans (.pure f.rel (Stp.new f.rel.gr.bh hl))) (emb_tup upd_same (r.reverse.mono (Same.new (bfresh f.rel.gr.bh hl)))) q⟩
    | _ => exact q.elim⟩
/-! slices -/
def cutD (xs : List D) (lo hi : Option Int) : List D := (xs.drop (HT.sIx xs.length 0 lo)).take (HT.sIx xs.length xs.length hi - HT.sIx xs.length 0 lo)
theorem EmbL.cut {a : Addr} {B : Hp} {xs : List D} {us : List V} (h : EmbL K a B xs us) (lo hi : Option Int) : EmbL K a B (cutD xs lo hi) (cutV us lo hi) := by
  unfold cutD cutV
  rw [h.length]
  exact (h.drop _).take _
abbrev DO := Wp (Option Int)
def RO : Addr → Hp → Hp → Hp → Option Int → Option Int → Prop := fun _ _ _ _ a b => a = b
structure DPO (X : Cx) (K : PySem.W.Frag) (W : WX) (e : Option Expr) (te : TO) (t : DO) : Prop where
  k : X.K = K
  po : PO X e te
  sn : Snd K W RO te t
def dNoPart : DO := fun s _ P => P none s
def dPart (t : DE) : DO := fun s E P => t s E fun d s1 => match d with
  | .int i => P (some i) s1
  | _ => False
theorem do_none (hK : X.K = K := by rfl) : DPO X K W none tNoPart dNoPart := ⟨hK, po_none, fun a B0 H0 s σ B H E P Q R L ht k => k none s none B H (.refl R) rfl ht⟩
theorem do_some (h : DPE X K W x ea ta) : DPO X K W (some x) (tPart ea) (dPart ta) := ⟨h.k, po_some h.pe, fun a B0 H0 s σ B H E P Q R L ht k => h.sn a B0 H0 s σ B H E _ _ R L ht fun d s1 v B1 H1 f em q => by
  cases d with
  | int i => cases Emb.int em; exact ⟨i, rfl, k (some i) s1 _ B1 H1 f rfl q⟩
  | _ => exact q.elim⟩
variable {lo hi : Option Expr} {tl th : TO} {dl dh : DO} {p2 : Pos}
def dSlT (t : DE) (l h : DO) : DE := fun s E P => t s E fun d s1 => l s1 E fun i s2 => h s2 E fun j s3 => match d with
  | .tup xs => P (.tup (cutD xs i j)) s3
  | _ => False
def dSlS (t : DE) (l h : DO) : DE := fun s E P => t s E fun d s1 => l s1 E fun i s2 => h s2 E fun j s3 => match d with
  | .str z => z.length ≤ sizeLine ∧ P (.str (cutS z i j)) s3
  | _ => False
def dSlL (t : DE) (l h : DO) : DA := fun s E P => t s E fun d s1 => l s1 E fun i s2 => h s2 E fun j s3 => match d with
  | .lst xs => P (cutD xs i j) s3
  | _ => False
theorem de_slT (h : DPE X K W x ea ta) (hl : DPO X K W lo tl dl) (hh : DPO X K W hi th dh) : DPE X K W (.Subscript x (.Slice lo hi none p2) pos) (tSl (rSlA K) ea tl th) (dSlT ta dl dh) :=
  ⟨h.k, by have hk := h.k; subst hk; exact pe_slice sl_tupA h.pe hl.po hh.po, fun a B0 H0 s σ B H E P Q R L ht k => h.sn a B0 H0 s σ B H E _ _ R L ht fun d s1 v B1 H1 f1 em q1 => hl.sn a B0 H0 s1 σ B1 H1 E _ _ f1.rel L q1 fun i s2 i' B2 H2 f2 e2 q2 => hh.sn a B0 H0 s2 σ B2 H2 E _ _ f2.rel L q2 fun j s3 j' B3 H3 f3 e3 q3 => by
    cases e2
    cases e3
    cases d with
    | tup xs =>
      have em3 := em.mono (f2.stp.bb.trans f3.stp.bb)
      obtain ⟨p, us, rfl, hp, r⟩ := Emb.tup em3
      have sB := f3.rel.gr.bh
      have f := f1.trans (f2.trans f3)
      refine ⟨p, us, rfl, SqT.of (sB _ _ hp), fun e => ?_, fun _ l hl => k _ s3 _ _ _ (f.trans (.pure f3.rel (Stp.new sB hl))) (emb_tup upd_same ((r.cut i j).mono (Same.new (bfresh sB hl)))) q3⟩
      have le := r.length
      have e2 : cutD xs i j = xs := by
        unfold cutD
        rw [← le, e.1, e.2, List.drop_zero, Nat.sub_zero, List.take_of_length_le (by rw [le]; exact Nat.le_refl _)]
      dsimp only at q3
      rw [e2] at q3
      exact k _ s3 _ B3 H3 f em3 q3
    | _ => exact q3.elim⟩
theorem de_slS (h : DPE X K W x ea ta) (hl : DPO X K W lo tl dl) (hh : DPO X K W hi th dh) : DPE X K W (.Subscript x (.Slice lo hi none p2) pos) (tSl rSlS ea tl th) (dSlS ta dl dh) :=
  ⟨h.k, pe_slice sl_str h.pe hl.po hh.po, fun a B0 H0 s σ B H E P Q R L ht k => h.sn a B0 H0 s σ B H E _ _ R L ht fun d s1 v B1 H1 f1 em q1 => hl.sn a B0 H0 s1 σ B1 H1 E _ _ f1.rel L q1 fun i s2 i' B2 H2 f2 e2 q2 => hh.sn a B0 H0 s2 σ B2 H2 E _ _ f2.rel L q2 fun j s3 j' B3 H3 f3 e3 q3 => by
    cases e2
    cases e3
    cases d with
    | str z =>
      cases Emb.str em
      exact ⟨z, rfl, q3.1, k _ s3 _ B3 H3 (f1.trans (f2.trans f3)) emb_str q3.2⟩
    | _ => exact q3.elim⟩
theorem dn_slL (h : DPE X K W x ea ta) (hl : DPO X K W lo tl dl) (hh : DPO X K W hi th dh) : DPN X K W (.Subscript x (.Slice lo hi none p2) pos) (tSl (rSlL K) ea tl th) (dSlL ta dl dh) :=
  ⟨h.k, by have hk := h.k; subst hk; exact pe_slice sl_list h.pe hl.po hh.po, fun a B0 H0 s σ B H E P Q R L ht k => h.sn a B0 H0 s σ B H E _ _ R L ht fun d s1 v B1 H1 f1 em q1 => hl.sn a B0 H0 s1 σ B1 H1 E _ _ f1.rel L q1 fun i s2 i' B2 H2 f2 e2 q2 => hh.sn a B0 H0 s2 σ B2 H2 E _ _ f2.rel L q2 fun j s3 j' B3 H3 f3 e3 q3 => by
    cases e2
    cases e3
    cases d with
    | lst xs =>
      have em3 := em.mono (f2.stp.bb.trans f3.stp.bb)
      obtain ⟨p, us, rfl, hp, r⟩ := Emb.lst em3
      have sB := f3.rel.gr.bh
      have f := f1.trans (f2.trans f3)
      exact ⟨p, us, rfl, SqL.of (sB _ _ hp), fun l hl => k _ s3 _ _ _ (f.trans (.pure f3.rel (Stp.cell sB hl))) ⟨l, _, rfl, upd_same, bfresh sB hl, f.stp.fresh hl, r.cut i j⟩ q3⟩
    | _ => exact q3.elim⟩
/-! ### texts -/
def catS : D → D → (D → Prop) → Prop := fun x y P => match x, y with
  | .str a, .str b => a.length + b.length ≤ sizeLine ∧ P (.str (a ++ b))
  | _, _ => False
theorem l_catS : LOp K (fun x y H Q => ∃ i j, x = .str i ∧ y = .str j ∧ i.length + j.length ≤ sizeLine ∧ Q (.str (i ++ j)) H) catS := fun a B H x y u v P Q s ex ey r k => by
  unfold catS at r
  split at r
  · cases Emb.str ex
    cases Emb.str ey
    exact ⟨_, _, rfl, rfl, r.1, k _ B H _ (Stp.refl s) emb_str r.2⟩
  · exact r.elim
/-- a sign in a text -/
def inS (ng : Bool) : D → D → (D → Prop) → Prop := fun x y P => match y with
  | .str z => ∃ c : Nat, x = .str ⟨#[c]⟩ ∧ P (.bl (if ng then !decide (c ∈ z.cps.toList) else decide (c ∈ z.cps.toList)))
  | _ => False
theorem l_inS : LOp K (fun x y H Q => ∃ (c : Nat) (z : Str), x = .str ⟨#[c]⟩ ∧ y = .str z ∧ Q (.bl (decide (c ∈ z.cps.toList))) H) (inS false) := fun a B H x y u v P Q s ex ey r k => by
  unfold inS at r
  split at r
  · obtain ⟨c, rfl, r⟩ := r
    cases Emb.str ex
    cases Emb.str ey
    exact ⟨c, _, rfl, rfl, k _ B H _ (Stp.refl s) emb_bl r⟩
  · exact r.elim
theorem l_ninS : LOp K (fun x y H Q => ∃ (c : Nat) (z : Str), x = .str ⟨#[c]⟩ ∧ y = .str z ∧ Q (.bl (!decide (c ∈ z.cps.toList))) H) (inS true) := fun a B H x y u v P Q s ex ey r k => by
  unfold inS at r
  split at r
  · obtain ⟨c, rfl, r⟩ := r
    cases Emb.str ex
    cases Emb.str ey
    exact ⟨c, _, rfl, rfl, k _ B H _ (Stp.refl s) emb_bl r⟩
  · exact r.elim
/-! ### in a list or tuple of flat things -/
def flatD : D → Bool
  | .non => true
  | .bl _ => true
  | .int _ => true
  | .str _ => true
  | _ => false
def toV : D → V
  | .bl b => .bl b
  | .int i => .int i
  | .str z => .str z
  | _ => .non
theorem flat_V {a : Addr} {B : Hp} {d : D} {v : V} (h : flatD d = true) (e : Emb K a B d v) : v = toV d ∧ flatV v = true := by
  cases d with
  | non => cases Emb.non e; exact ⟨rfl, rfl⟩
  | bl b => cases Emb.bl e; exact ⟨rfl, rfl⟩
  | int i => cases Emb.int e; exact ⟨rfl, rfl⟩
  | str z => cases Emb.str e; exact ⟨rfl, rfl⟩
  | _ => cases h
theorem flats_V {a : Addr} {B : Hp} : ∀ {ds : List D} {vs : List V}, ds.all flatD = true → EmbL K a B ds vs → vs = ds.map toV ∧ vs.all flatV = true
  | [], vs, _, h => by rw [h.of_nil]; exact ⟨rfl, rfl⟩
  | d :: ds, vs, p, h => by
    obtain ⟨u, r, rfl, h1, h2⟩ := h.uncons
    rw [List.all_cons, Bool.and_eq_true] at p
    obtain ⟨e1, f1⟩ := flat_V p.1 h1
    obtain ⟨e2, f2⟩ := flats_V p.2 h2
    exact ⟨by rw [e1, e2, List.map_cons], by rw [List.all_cons, f1, f2]; rfl⟩
def inB (x : D) (ys : List D) : Bool := ys.any fun y => eqV (toV y) (toV x)
def inD (ng : Bool) : D → D → (D → Prop) → Prop := fun x y P => match y with
  | .lst ys => (flatD x = true ∧ ys.all flatD = true) ∧ P (.bl (if ng then !inB x ys else inB x ys))
  | .tup ys => (flatD x = true ∧ ys.all flatD = true) ∧ P (.bl (if ng then !inB x ys else inB x ys))
  | _ => False
theorem inV_inB (x : D) (ys : List D) : inV (toV x) (ys.map toV) = inB x ys := by
  unfold inV inB
  rw [List.any_map]
  rfl
theorem l_in {ng : Bool} : LOpR K (rIn K ng) (inD ng) := fun a B H x y u v P Q s ex ey r k => by
  have hs := RP.seq s ey
  unfold inD at r
  split at r
  · obtain ⟨p, us, rfl, hp, em⟩ := hs.1 _ rfl
    obtain ⟨rfl, fx⟩ := flat_V r.1.1 ex
    obtain ⟨rfl, fy⟩ := flats_V r.1.2 em
    refine ⟨p, _, rfl, .inl (SqL.of hp), fx, fy, ?_⟩
    rw [inV_inB]
    exact k _ B H _ (Stp.refl s) emb_bl r.2
  · obtain ⟨p, us, rfl, hp, em⟩ := hs.2.1 _ rfl
    obtain ⟨rfl, fx⟩ := flat_V r.1.1 ex
    obtain ⟨rfl, fy⟩ := flats_V r.1.2 em
    refine ⟨p, _, rfl, .inr (SqT.of hp), fx, fy, ?_⟩
    rw [inV_inB]
    exact k _ B H _ (Stp.refl s) emb_bl r.2
  · exact r.elim
theorem in_k (h : X.K = K) : OpR X (compareOp .In) (rIn K false) := by subst h; exact op_in_seq
theorem nin_k (h : X.K = K) : OpR X (compareOp .NotIn) (rIn K true) := by subst h; exact op_notIn_seq
/-- e in x, x a slot -/
theorem de_cmpR {op : CmpOp} {r : R2} {rd : D → D → (D → Prop) → Prop} (ho : OpR X (compareOp op) r) (l : LOpR K r rd) (ha : DPE X K W x ea ta) (hv : PE X (.Name nm p1) (tVar i)) (hm : behindInMarks op (.Name nm p1) = false := by first | exact nomark _ | rfl) : DPE X K W (.Compare x [op] [.Name nm p1] pos) (tOp r ea (tVar i)) (dOpR rd ta i) :=
  ⟨ha.k, pe_cmpR ho ha.pe hv hm, snd_opR l ha.sn⟩
theorem dt_cmpR {op : CmpOp} {r : R2} {rd : D → D → (D → Prop) → Prop} (ho : OpR X (compareOp op) r) (l : LOpR K r rd) (ha : DPE X K W x ea ta) (hv : PE X (.Name nm p1) (tVar i)) (hm : behindInMarks op (.Name nm p1) = false := by first | exact nomark _ | rfl) : DPT X K W (.Compare x [op] [.Name nm p1] pos) (tTest (tOp r ea (tVar i))) (dTest (dOpR rd ta i)) :=
  ⟨ha.k, pt_cmpR ho ha.pe hv hm, snd_test (snd_opR l ha.sn)⟩
end
/-! ### more that a for walks -/
section
variable {X : Cx} {K : PySem.W.Frag} {W : WX} {e tg : Expr} {te : TE} {t : DE} {a : Addr} {B : Hp} {p : Addr} {us : List V} {xs : List D} {pos : Pos}
theorem jok_str (z : Str) : JOk K a (Its z) (z.cps.toList.map fun c => D.str ⟨#[c]⟩) B := by
  have le : (z.cps.toList.map fun c => D.str ⟨#[c]⟩).length = z.cps.size := by simp
  refine ⟨fun i B2 H2 s1 s2 hi => by rw [le] at hi; exact hi, fun i B2 H2 x H3 s1 s2 hi y => ?_, fun i B2 H2 s1 s2 hi => by rw [le] at hi; exact Nat.le_of_eq hi.symm⟩
  obtain ⟨rfl, c, hc, rfl⟩ := y
  exact ⟨.str ⟨#[c]⟩, by rw [List.getElem?_map, Array.getElem?_toList, hc]; rfl, B2, Stp.refl s2, emb_str⟩
def dItS (t : DE) : DA := fun s E P => t s E fun d s1 => match d with
  | .str z => P (z.cps.toList.map fun c => .str ⟨#[c]⟩) s1
  | _ => False
theorem di_str (h : DPE X K W e te t) : DPI X K W tg e (iStr te) (dItS t) := ⟨h.k, pi_str h.pe, fun a B0 H0 s σ B H E P Q R L ht k =>
  h.sn a B0 H0 s σ B H E _ _ R L ht fun d s1 v B1 H1 f em q => by
    cases d with
    | str z => cases Emb.str em; exact ⟨z, rfl, k _ s1 _ B1 H1 f (jok_str z) q⟩
    | _ => exact q.elim⟩
def enumD (xs : List D) : List D := (List.range xs.length).map fun (i : Nat) => .tup [.int i, xs.getD i .non]
theorem enumD_len (xs : List D) : (enumD xs).length = xs.length := by simp [enumD]
theorem enumD_get {xs : List D} {i : Nat} {d : D} (h : xs[i]? = some d) : (enumD xs)[i]? = some (.tup [.int i, d]) := by
  have hi := (List.getElem?_eq_some_iff.mp h).1
  unfold enumD
  rw [List.getElem?_map, List.getElem?_range hi]
  show some (D.tup [.int i, xs.getD i .non]) = _
  rw [List.getD_eq_getElem?_getD, h]
  rfl
theorem jok_enumT (h : B p = some (.tup us)) (r : EmbL K a B xs us) : JOk K a (IteT K p) (enumD xs) B := by
  have le := r.length
  have sq : ∀ {B2 H2 : Hp}, Same B B2 → Same B2 H2 → SqT K H2 p us := fun s1 s2 => SqT.of (s2 _ _ (s1 _ _ h))
  refine ⟨fun i B2 H2 s1 s2 hi => by rw [enumD_len] at hi; exact ⟨us, us[i]'(by omega), sq s1 s2, by simp⟩, fun i B2 H2 x H3 s1 s2 hi y => ?_, fun i B2 H2 s1 s2 hi => by rw [enumD_len] at hi; exact ⟨us, sq s1 s2, by omega⟩⟩
  rw [enumD_len] at hi
  obtain ⟨T, u, rfl, hT, rfl, y⟩ := y
  have hx := y us (sq s1 s2)
  obtain ⟨w, hw, ew⟩ := r.get (List.getElem?_eq_getElem hi)
  rw [hx] at hw
  cases hw
  exact ⟨_, enumD_get (List.getElem?_eq_getElem hi), _, Stp.new s2 hT, emb_tup upd_same (.cons emb_int (.cons ((ew.mono s1).mono (Same.new (bfresh s2 hT))) .nil))⟩
theorem jok_enumL (h : B p = some (.lst us)) (r : EmbL K a B xs us) : JOk K a (Ite K p) (enumD xs) B := by
  have le := r.length
  have sq : ∀ {B2 H2 : Hp}, Same B B2 → Same B2 H2 → SqL K H2 p us := fun s1 s2 => SqL.of (s2 _ _ (s1 _ _ h))
  refine ⟨fun i B2 H2 s1 s2 hi => by rw [enumD_len] at hi; exact ⟨us, us[i]'(by omega), sq s1 s2, by simp⟩, fun i B2 H2 x H3 s1 s2 hi y => ?_, fun i B2 H2 s1 s2 hi => by rw [enumD_len] at hi; exact ⟨us, sq s1 s2, by omega⟩⟩
  rw [enumD_len] at hi
  obtain ⟨T, u, rfl, hT, rfl, y⟩ := y
  have hx := y us (sq s1 s2)
  obtain ⟨w, hw, ew⟩ := r.get (List.getElem?_eq_getElem hi)
  rw [hx] at hw
  cases hw
  exact ⟨_, enumD_get (List.getElem?_eq_getElem hi), _, Stp.new s2 hT, emb_tup upd_same (.cons emb_int (.cons ((ew.mono s1).mono (Same.new (bfresh s2 hT))) .nil))⟩
def dEnumT (t : DE) : DA := fun s E P => t s E fun d s1 => match d with
  | .tup xs => P (enumD xs) s1
  | _ => False
def dEnumL (t : DE) : DA := fun s E P => t s E fun d s1 => match d with
  | .lst xs => P (enumD xs) s1
  | _ => False
theorem di_enumT {es : List Expr} {c0 : Nat} {tp p0 : Pos} (hm : X.mg "enumerate" = none) (h : DPE X K W e te t) (hg : Gl X "enumerate" := by rfl) (hs : starEach [e] X.env = [(false, eval e X.env)] := by rfl) (hs2 : starEach [e] X.env = (false, eval e X.env) :: starEach [] X.env := by rfl) : DPI X K W (.Tuple es c0 tp) (.Call (.Name "enumerate" p0) [e] [] pos) (iEnumT K (tCons te tNil)) (dEnumT t) :=
  ⟨h.k, by have hk := h.k; subst hk; exact pi_enumT hg hm (pa_cons h.pe pa_nil hs2) hs, fun a B0 H0 s σ B H E P Q R L ht k =>
    h.sn a B0 H0 s σ B H E _ _ R L ht fun d s1 v B1 H1 f em q => by
      cases d with
      | tup xs =>
        obtain ⟨p, us, rfl, hp, r⟩ := Emb.tup em
        exact ⟨p, us, rfl, SqT.of (f.rel.gr.bh _ _ hp), k _ s1 _ B1 H1 f (jok_enumT hp r) q⟩
      | _ => exact q.elim⟩
theorem di_enumL {es : List Expr} {c0 : Nat} {tp p0 : Pos} (hm : X.mg "enumerate" = none) (h : DPE X K W e te t) (hg : Gl X "enumerate" := by rfl) (hs : starEach [e] X.env = [(false, eval e X.env)] := by rfl) (hs2 : starEach [e] X.env = (false, eval e X.env) :: starEach [] X.env := by rfl) : DPI X K W (.Tuple es c0 tp) (.Call (.Name "enumerate" p0) [e] [] pos) (iEnum K (tCons te tNil)) (dEnumL t) :=
  ⟨h.k, by have hk := h.k; subst hk; exact pi_enum hg hm (pa_cons h.pe pa_nil hs2) hs, fun a B0 H0 s σ B H E P Q R L ht k =>
    h.sn a B0 H0 s σ B H E _ _ R L ht fun d s1 v B1 H1 f em q => by
      cases d with
      | lst xs =>
        obtain ⟨p, us, rfl, hp, r⟩ := Emb.lst em
        exact ⟨p, us, rfl, SqL.of (f.rel.gr.bh _ _ hp), k _ s1 _ B1 H1 f (jok_enumL hp r) q⟩
      | _ => exact q.elim⟩
/-- range(i, j, -1) -/
def downD (lo : Int) (n : Nat) : List D := (List.range n).map fun (k : Nat) => .int (lo + (k : Nat) * -1)
theorem jok_down {lo : Int} {n : Nat} : JOk K a (Itc lo (-1) n) (downD lo n) B := by
  have le : (downD lo n).length = n := by simp [downD]
  refine ⟨fun i B2 H2 s1 s2 hi => by rw [le] at hi; exact hi, fun i B2 H2 x H3 s1 s2 hi y => ?_, fun i B2 H2 s1 s2 hi => by rw [le] at hi; exact Nat.le_of_eq hi.symm⟩
  obtain ⟨rfl, rfl⟩ := y
  rw [le] at hi
  exact ⟨_, by unfold downD; rw [List.getElem?_map, List.getElem?_range hi]; rfl, B2, Stp.refl s2, emb_int⟩
def dDown (t : DA) : DA := fun s E P => t s E fun ds s1 => match ds with
  | [.int i, .int j, .int c] => (c = -1 ∧ -(2 ^ 62) ≤ i ∧ i < 2 ^ 62 ∧ -(2 ^ 62) ≤ j ∧ j < 2 ^ 62) ∧ P (downD i (i - j).toNat) s1
  | _ => False
theorem di_down {e1 e2 e3 : Expr} {ta : TA} {td : DA} {p : Pos} (hm : X.mg "range" = none) (ha : DPA X K W [e1, e2, e3] ta td) (hg : Gl X "range" := by rfl) (hs : starEach [e1, e2, e3] X.env = (false, eval e1 X.env) :: starEach [e2, e3] X.env := by rfl) (hpl : (backTo pos (starEach [e2, e3] X.env)).any (·.1) = false := by rfl) :
    DPI X K W tg (.Call (.Name "range" p) [e1, e2, e3] [] pos) (iRng3 ta) (dDown td) := ⟨ha.k, pi_range3 hg hm ha.pe hs hpl, fun a B0 H0 s σ B H E P Q R L ht k =>
  ha.sn a B0 H0 s σ B H E _ _ R L ht fun ds s1 v B1 H1 f em q => by
    match ds, q with
    | [.int i, .int j, .int c], q =>
      obtain ⟨u, r, rfl, h1, h2⟩ := em.uncons
      obtain ⟨u2, u3, rfl, h3, h4⟩ := embl2 h2
      cases Emb.int h1
      cases Emb.int h3
      cases Emb.int h4
      obtain ⟨⟨rfl, b1, b2, b3, b4⟩, q⟩ := q
      exact ⟨i, j, -1, (i - j).toNat, rfl, RgC.neg b1 b2 b3 b4, k _ s1 _ B1 H1 f jok_down q⟩⟩
end
end Dl
/-! words for the readings -/
local macro_rules | `(tactic| walk_at "st") => `(tactic| first
  | (with_reducible refine Us.i_seq ?_)
  | (with_reducible refine Us.i_asg ?_)
  | (with_reducible refine Us.i_ret ?_)
  | (with_reducible refine Us.i_ifS ?_)
  | (with_reducible refine Us.i_name ?_)
  | ((with_reducible refine' Us.i_var ?h ?_); case h => exact rfl)
  | (with_reducible refine Us.i_c ?_)
  | (with_reducible refine Us.i_gcons ?_)
  | (with_reducible refine Us.i_for ?_)
  | (with_reducible refine Us.i_lc ?_)
  | (with_reducible refine Us.i_iTup ?_)
  | (with_reducible refine Us.i_iList ?_)
  | (with_reducible refine Us.i_iRng1 ?_)
  | (with_reducible refine Us.i_iRng2 ?_)
  | (with_reducible refine Us.i_iStr ?_)
  | (with_reducible refine Us.i_revT ?_)
  | (with_reducible refine Us.i_gnil ?_)
  | (with_reducible refine Us.i_par ?_)
  | (with_reducible refine Us.i_setF ?_)
  | (with_reducible refine Us.i_getF ?_)
  | (with_reducible refine Us.i_meth ?_)
  | (with_reducible refine Us.i_make ?_)
  | (with_reducible refine Us.i_makeS ?_)
  | (with_reducible refine Us.i_two ?_)
  | ((with_reducible refine' Us.i_aug ?h ?_); case h => exact rfl)
  | (with_reducible refine Us.i_op ?_)
  | (with_reducible refine Us.i_cons ?_)
  | (with_reducible refine Us.i_nil ?_)
  | (with_reducible refine Us.i_call ?_)
  | (with_reducible refine Us.i_callS ?_)
  | (with_reducible refine Us.i_cb ?_)
  | (with_reducible refine Us.i_tup ?_)
  | (with_reducible refine Us.i_lst ?_)
  | (with_reducible refine Us.i_b ?_)
  | (with_reducible refine Us.i_test ?_)
  | (with_reducible refine Us.i_and ?_)
  | (with_reducible refine Us.i_or ?_)
  | (with_reducible refine Us.i_not ?_)
  | (with_reducible refine Us.i_yes ?_)
  | (with_reducible refine Us.i_if ?_)
  | (with_reducible refine Us.i_andV ?_)
  | (with_reducible refine Us.i_orV ?_)
  | (with_reducible refine Us.i_notV ?_)
  | (with_reducible refine Us.i_chain ?_)
  | (with_reducible refine Us.i_bm0 ?_)
  | (with_reducible refine Us.i_bm ?_)
  | (with_reducible refine Us.i_sl ?_)
  | (with_reducible refine Us.i_noPart ?_)
  | (with_reducible refine Us.i_part ?_)
  | (with_reducible refine Us.i_sub ?_)
  | (with_reducible refine Us.i_un ?_)
  | (with_reducible refine Us.i_tsup ?_)
  | (with_reducible refine Us.i_drop ?_)
  | (with_reducible refine' Us.i_next ?_)
  | (with_reducible refine Us.i_retN ?_)
  | (with_reducible refine Us.i_bl ?_)
  | (with_reducible refine Us.i_int ?_)
  | (with_reducible refine Us.i_rI0 ?_)
  | (with_reducible refine Us.i_rU ?_)
  | (with_reducible refine Us.i_isNn ?_)
  | (with_reducible refine Us.i_isNi ?_)
  | (with_reducible refine Us.i_isNr ?_)
  | (with_reducible refine Us.i_isNs ?_)
  | (with_reducible refine Us.i_isNb ?_)
  | (with_reducible refine Us.i_ntNn ?_)
  | (with_reducible refine Us.i_ntNi ?_)
  | (with_reducible refine Us.i_ntNr ?_)
  | (with_reducible refine Us.i_ntNs ?_)
  | (with_reducible refine Us.i_ntNb ?_)
  | (with_reducible refine Us.i_isN ?_)
  | (with_reducible refine Us.i_notN ?_)
  | (with_reducible refine Us.i_intI ?_)
  | (with_reducible refine Us.i_intB ?_)
  | ((with_reducible refine' Us.i_eq ?h ?_); case h => exact rfl)
  | ((with_reducible refine' Us.i_ne ?h ?_); case h => exact rfl)
  | ((with_reducible refine' Us.i_isi ?hs ?sh ?_ ?hn); (case hs => assumption); (case sh => assumption); (case hn => decide))
  | (with_reducible refine Us.iteNF ?_)
  | (with_reducible refine Us.iteNT ?_)
  | (with_reducible refine L2.iteT ?_)
  | (with_reducible refine L2.iteF ?_))
local macro_rules | `(tactic| walk_at "go") => `(tactic| repeat walk_at "st")
local macro_rules | `(tactic| walk_at "d") => `(tactic| conv => whnf)
local macro_rules | `(tactic| walk_at "c") => `(tactic| ((conv => whnf); refine Dl.cnd_case (fun c => ?_) (fun c => ?_)))
local macro_rules | `(tactic| walk_at "r") => `(tactic| repeat ((conv => whnf); (refine And.intro (by first | assumption | exact True.intro | rfl | decide | exact Nat.le_of_ble_eq_true rfl) ?_)))
set_option maxRecDepth 100000
set_option maxHeartbeats 2000000
namespace K10
open PySem PySem.Spec PyProof.Rows L2 Us Dl
def pure1 (p : D → Prop) (f : D → D) : DSp := fun ds P _ => ∃ d, ds = [d] ∧ p d ∧ P (f d)
def isInt : D → Bool
  | .int _ => true
  | _ => false
def within (d : D) (lo hi : Int) : Bool := match d with
  | .int i => decide (lo ≤ i) && decide (i ≤ hi)
  | _ => false
def isPair : D → Bool
  | .tup [_, _] => true
  | _ => false
section
variable {P : Program} {w : World} {K : PySem.W.Frag} {mg : Str → Option Value} {base : Heap}
theorem ok_is_integer (T : Txt K mg) : DefOk P w K mg base CX0 1 "is_integer" p_is_integer (toSp K (pure1 (isOk []) fun d => .bl (isInt d))) := by
  refine T.d_is_integer.dl sc_is_integer (fun _ _ _ _ _ _ us hl => match us, hl with | [_], _ => rfl) (fun ds Q E ⟨d, e, _⟩ => by rw [e]; rfl) (fun fa cdv A outer s H E hr => ⟨_, _, (dss_one (ds_ret (de_and (de_isi (cs := []) (n := .int) (fun _ h => nomatch h) T.f_isinstance T.f_int (by decide +kernel) (dv 0)) (de_one (de_not (de_isi (cs := []) (n := .bool) (fun _ h => nomatch h) T.f_isinstance T.f_bool (by decide +kernel) (dv 0))))))), fun ds Q E h => ?_⟩)
  obtain ⟨d, rfl, ok, k⟩ := h
  cases d <;> first | exact ⟨ok, ok, k⟩ | exact ⟨ok, k⟩
theorem ok_is_within (T : Txt K mg) (Dis_integer : DefOk P w K mg base CX0 1 "is_integer" p_is_integer (toSp K (pure1 (isOk []) fun d => .bl (isInt d)))) :
    DefOk P w K mg base CX0 2 "is_within" p_is_within (toSp K fun ds P _ => ∃ d lo hi, ds = [d, .int lo, .int hi] ∧ isOk [] d ∧ P (.bl (within d lo hi))) := by
  refine T.d_is_within.dl sc_is_within (fun _ _ _ _ _ _ us hl => match us, hl with | [_, _, _], _ => rfl) (fun ds Q E ⟨d, lo, hi, e, _⟩ => by rw [e]; rfl) (fun fa cdv A outer s H E hr => ⟨_, _, (dss_one (ds_ret (de_and (de_call0 Dis_integer (hr.mono (by first | decide | omega)) (da_cons (dv 0) da_nil)) (de_one (de_chain op_le l_bool op_le l_bool (dv 1) (dv 0) (dv 2)))))), fun ds Q E h => ?_⟩)
  obtain ⟨d, lo, hi, rfl, ok, k⟩ := h
  refine ⟨d, rfl, ok, ?_⟩
  cases d <;> first
    | exact k
    | (rename_i i
       walk_at "d"
       refine cnd_case (fun c => ?_) (fun c => ?_) <;> (change Q (.bl (decide (lo ≤ i) && decide (i ≤ hi))) at k; rw [c] at k; exact k))
theorem ok_is_pair (T : Txt K mg) : DefOk P w K mg base CX0 1 "is_pair" p_is_pair (toSp K (pure1 (isOk []) fun d => .bl (isPair d))) := by
  refine T.d_is_pair.dl sc_is_pair (fun _ _ _ _ _ _ us hl => match us, hl with | [_], _ => rfl) (fun ds Q E ⟨d, e, _⟩ => by rw [e]; rfl) (fun fa cdv A outer s H E hr => ⟨_, _, (dss_one (ds_ret (de_and (de_isi (cs := []) (n := .tuple) (fun _ h => nomatch h) T.f_isinstance T.f_tuple (by decide +kernel) (dv 0)) (de_one (de_cmp op_eq l_eqS (de_b1V (len_k rfl) l_len T.f_len (pv 0)) de_int))))), fun ds Q E h => ?_⟩)
  obtain ⟨d, rfl, ok, k⟩ := h
  cases d <;> first
    | exact ⟨ok, k⟩
    | (rename_i xs
       refine ⟨ok, ?_⟩
       walk_at "d"
       match xs, k with
       | [], k => exact k
       | [_], k => exact k
       | [_, _], k => exact k
       | _ :: _ :: _ :: r, k =>
         rw [decide_eq_false (by simp only [List.length_cons]; omega)]
         exact k)
theorem ok_is_take (T : Txt K mg) : DefOk P w K mg base CX0 1 "is_take" p_is_take (toSp K (pure1 (isOk []) fun d => .bl (isiB d .tuple))) := by
  refine T.d_is_take.dl sc_is_take (fun _ _ _ _ _ _ us hl => match us, hl with | [_], _ => rfl) (fun ds Q E ⟨d, e, _⟩ => by rw [e]; rfl) (fun fa cdv A outer s H E hr => ⟨_, _, (dss_one (ds_ret (de_isi (cs := []) (n := .tuple) (fun _ h => nomatch h) T.f_isinstance T.f_tuple (by decide +kernel) (dv 0)))), fun ds Q E h => ?_⟩)
  obtain ⟨d, rfl, ok, k⟩ := h
  exact ⟨ok, k⟩
end

end K10
set_option maxRecDepth 100000
set_option maxHeartbeats 2000000
namespace Dl
open PySem PySem.Spec PyProof.Rows L2 Us
/-! ### dicts of data -/
def keyD : D → Option Key
  | .int i => some (.inl i)
  | .str z => some (.inr z)
  | _ => none
theorem key_V {K : PySem.W.Frag} {a : Addr} {B : Hp} {d : D} {v : V} {k : Key} (h : keyD d = some k) (e : Emb K a B d v) : v = kV k := by
  cases d with
  | int i => cases h; exact Emb.int e
  | str z => cases h; exact Emb.str e
  | _ => cases h
def kpos : List Key → Key → Option Nat
  | [], _ => none
  | x :: r, k => if x = k then some 0 else (kpos r k).map (· + 1)
def lkD (ks : List Key) (ds : List D) (k : Key) : Option D := (kpos ks k).bind (ds[·]?)
def putD : List Key → List D → Key → D → List D
  | k :: ks, d :: ds, x, v => (if k = x then v else d) :: putD ks ds x v
  | _, _, _, _ => []
def putKD (ks : List Key) (ds : List D) (k : Key) (v : D) : List Key × List D := match kpos ks k with
  | some _ => (ks, putD ks ds k v)
  | none => (ks ++ [k], ds ++ [v])
section
variable {K : PySem.W.Frag} {a : Addr} {B : Hp}
theorem lkD_pos {k : Key} {ks : List Key} {d : D} {ds : List D} : lkD (k :: ks) (d :: ds) k = some d := by
  unfold lkD kpos
  rw [if_pos rfl]
  rfl
theorem lkD_neg {k0 k : Key} {ks : List Key} {d : D} {ds : List D} (h : k0 ≠ k) : lkD (k0 :: ks) (d :: ds) k = lkD ks ds k := by
  unfold lkD
  rw [show kpos (k0 :: ks) k = (kpos ks k).map (· + 1) by rw [kpos, if_neg h]]
  cases kpos ks k <;> simp
theorem lk_V : ∀ {kvs : List (Key × V)} {ds : List D}, EmbL K a B ds (kvs.map (·.2)) → ∀ k, (match lkD (kvs.map (·.1)) ds k with
  | some d => ∃ v, valV kvs k = some v ∧ Emb K a B d v
  | none => valV kvs k = none)
  | [], ds, h, k => by rfl
  | (k0, v0) :: kvs, ds, h, k => by
    cases ds with
    | nil => have := h.of_nil; cases this
    | cons d ds =>
      obtain ⟨u, r, e, h1, h2⟩ := h.uncons
      cases e
      have ih := lk_V h2 k
      rw [List.map_cons]
      by_cases e : k0 = k
      · subst e
        rw [lkD_pos]
        exact ⟨v0, valV_pos (p := (k0, v0)) rfl, h1⟩
      · rw [lkD_neg (k0 := (k0, v0).1) e, valV_neg (p := (k0, v0)) e]
        exact ih
theorem kpos_any : ∀ {kvs : List (Key × V)} {k : Key}, (kvs.any fun kv => decide (kv.1 = k)) = (kpos (kvs.map (·.1)) k).isSome
  | [], k => rfl
  | (k0, v0) :: kvs, k => by
    rw [List.any_cons, List.map_cons]
    unfold kpos
    by_cases e : k0 = k
    · rw [decide_eq_true e, if_pos e]; rfl
    · rw [decide_eq_false e, if_neg e, kpos_any]
      cases kpos (kvs.map (·.1)) k <;> rfl
theorem put_map {d : D} {v : V} (e : Emb K a B d v) : ∀ {kvs : List (Key × V)} {ds : List D} {k : Key}, EmbL K a B ds (kvs.map (·.2)) → EmbL K a B (putD (kvs.map (·.1)) ds k d) ((kvs.map fun kv => if kv.1 = k then (kv.1, v) else kv).map (·.2))
  | [], ds, k, h => by unfold putD; exact .nil
  | (k0, v0) :: kvs, ds, k, h => by
    cases ds with
    | nil => have := h.of_nil; cases this
    | cons d0 ds =>
      obtain ⟨u, r, e', h1, h2⟩ := h.uncons
      cases e'
      have ih := put_map e (k := k) h2
      simp only [List.map_cons]
      unfold putD
      by_cases ek : k0 = k
      · rw [if_pos ek, if_pos ek]
        exact .cons e ih
      · rw [if_neg ek, if_neg ek]
        exact .cons h1 ih
theorem put_keys {v : V} {k : Key} : ∀ {kvs : List (Key × V)}, (kvs.map fun kv => if kv.1 = k then (kv.1, v) else kv).map (·.1) = kvs.map (·.1)
  | [] => rfl
  | (k0, v0) :: kvs => by
    simp only [List.map_cons]
    rw [put_keys]
    by_cases e : k0 = k
    · rw [if_pos e]
    · rw [if_neg e]
theorem put_V {d : D} {v : V} {kvs : List (Key × V)} {ds : List D} (k : Key) (e : Emb K a B d v) (h : EmbL K a B ds (kvs.map (·.2))) : (putK kvs k v).map (·.1) = (putKD (kvs.map (·.1)) ds k d).1 ∧ EmbL K a B (putKD (kvs.map (·.1)) ds k d).2 ((putK kvs k v).map (·.2)) := by
  unfold putK putKD
  have hk := kpos_any (kvs := kvs) (k := k)
  cases q : kpos (kvs.map (·.1)) k with
  | some j =>
    rw [q] at hk
    rw [if_pos (show (kvs.any fun kv => decide (kv.1 = k)) = true from hk)]
    exact ⟨put_keys, put_map e h⟩
  | none =>
    rw [q] at hk
    rw [if_neg (by rw [hk]; exact Bool.false_ne_true)]
    exact ⟨by simp, by rw [List.map_append]; exact h.append (.cons e .nil)⟩
end
/-- a slot that holds a dict -/
def dctP (sl : Sl) (P : List Key → List D → Prop) : Prop := match sl with
  | .val (.dct ks ds) => P ks ds
  | .ownK ks ds => P ks ds
  | .lck ks ds => P ks ds
  | .rd ks ds => P ks ds
  | _ => False
theorem dgetR {H : Hp} {a : Addr} {kvs : List (Key × V)} {k : Key} (e : Rd H a (.dK kvs)) : DGet H a (kV k) (valV kvs k) := .inl ⟨kvs, k, e, rfl, rfl⟩
def keyP (d : D) (P : Key → Prop) : Prop := match keyD d with
  | some k => P k
  | none => False
theorem keyP_at {d : D} {P : Key → Prop} (h : keyP d P) : ∃ k, keyD d = some k ∧ P k := by
  unfold keyP at h
  split at h
  · exact ⟨_, by assumption, h⟩
  · exact h.elim
theorem dctP_at {K : PySem.W.Frag} {a : Addr} {B H H0 : Hp} {sl : Sl} {o : Option V} {P : List Key → List D → Prop} (s : Same B H) (r : SlR K a B H H0 sl o) (h : dctP sl P) : ∃ p kvs ks ds, o = some (.ref p) ∧ Rd H p (.dK kvs) ∧ kvs.map (·.1) = ks ∧ EmbL K a B ds (kvs.map (·.2)) ∧ P ks ds := by
  cases sl with
  | val d =>
    cases d with
    | dct ks ds =>
      obtain ⟨v, e, em⟩ := r
      obtain ⟨p, kvs, rfl, hp, ek, el⟩ := Emb.dct em
      exact ⟨p, kvs, ks, ds, e, .inl (s _ _ hp), ek, el, h⟩
    | _ => exact h.elim
  | ownK ks ds =>
    obtain ⟨p, kvs, e, h1, _, _, h4, h5⟩ := r
    exact ⟨p, kvs, ks, ds, e, .inl h1, h4, h5, h⟩
  | lck ks ds =>
    obtain ⟨p, kvs, od, e, h1, h4, h5⟩ := r
    exact ⟨p, kvs, ks, ds, e, .inr ⟨od, s _ _ h1⟩, h4, h5, h⟩
  | rd ks ds =>
    obtain ⟨p, kvs, e, h1, h4, h5⟩ := r
    exact ⟨p, kvs, ks, ds, e, h1.imp (s _ _) (fun ⟨o, h⟩ => ⟨o, s _ _ h⟩), h4, h5, h⟩
  | _ => exact h.elim
section
variable {X : Cx} {K : PySem.W.Frag} {W : WX} {pos p1 p2 cpos : Pos} {e f : Expr} {ee ef : TE} {te tf : DE} {i : Nat} {x : Str}
/-! {} -/
def dNewK : Wp (List Key × List D) := fun s _ P => P ([], []) s
theorem dk_new (hK : X.K = K := by rfl) : DPK X K W (.Dict [] [] pos) tDNewK dNewK := ⟨hK, pe_dnewK, fun a B0 H0 s σ B H E P Q R L ht k => fun p hp => k _ s _ B _ (.pure R (Stp.cell R.gr.bh hp)) ⟨p, [], rfl, upd_same, bfresh R.gr.bh hp, hp, rfl, .nil⟩ ht⟩
/-! d[k], k in d, d.get(k, x) of a slot -/
def dGetV (i : Nat) (t : DE) : DE := fun s E P => (gS s i).is = true ∧ t s E fun d s1 => keyP d fun k => dctP (gS s1 i) fun ks ds => match lkD ks ds k with
  | some y => P y s1
  | none => False
theorem de_dgetV (hu : X.A.units + 1 < cLine) (ho : PE X (.Name x p1) (tVar i)) (h : DPE X K W e ee te) (hs : NoSl e := by exact fun _ _ => rfl) : DPE X K W (.Subscript (.Name x p1) e pos) (tDGet (tVar i) ee) (dGetV i te) :=
  ⟨h.k, pe_dget hu ho h.pe hs, fun a B0 H0 s σ B H E P Q R L ⟨hi, ht⟩ k => by
    obtain ⟨u, eu⟩ := slot_is (R.slot i) hi
    refine ⟨u, join_some eu, h.sn a B0 H0 s σ B H E _ _ R L ht fun d s1 v B1 H1 fA ev q => ?_⟩
    obtain ⟨ky, hk, q⟩ := keyP_at q
    obtain ⟨p, kvs, ks, ds, eo, hp, ek, el, q⟩ := dctP_at fA.rel.gr.bh (fA.rel.slot i) q
    rw [eu] at eo
    cases eo
    have lk := lk_V el ky
    rw [ek] at lk
    split at q
    · rename_i y hy
      rw [hy] at lk
      obtain ⟨w, hw, ew⟩ := lk
      exact ⟨p, w, rfl, by rw [key_V hk ev, ← hw]; exact dgetR hp, k y s1 w B1 H1 fA ew q⟩
    · exact q.elim⟩
def dInV (ng : Bool) (t : DE) (i : Nat) : DE := fun s E P => t s E fun d s1 => keyP d fun k => dctP (gS s1 i) fun ks ds => P (.bl (if ng then !(lkD ks ds k).isSome else (lkD ks ds k).isSome)) s1
theorem in_isSome {a : Addr} {B : Hp} {kvs : List (Key × V)} {ds : List D} (el : EmbL K a B ds (kvs.map (·.2))) (k : Key) : (valV kvs k).isSome = (lkD (kvs.map (·.1)) ds k).isSome := by
  have lk := lk_V el k
  cases q : lkD (kvs.map (·.1)) ds k with
  | some d => rw [q] at lk; obtain ⟨v, hv, _⟩ := lk; rw [hv]; rfl
  | none => rw [q] at lk; rw [lk]; rfl
theorem snd_inV (h : Snd K W (RE K) ee te) : Snd K W (RE K) (tDIn ee (tVar i)) (dInV false te i) := fun a B0 H0 s σ B H E P Q R L ht k =>
  h a B0 H0 s σ B H E _ _ R L ht fun d s1 v B1 H1 fA ev q => by
    obtain ⟨ky, hk, q⟩ := keyP_at q
    obtain ⟨p, kvs, ks, ds, eo, hp, ek, el, q⟩ := dctP_at fA.rel.gr.bh (fA.rel.slot i) q
    subst ek
    refine ⟨_, join_some eo, p, _, rfl, by rw [key_V hk ev]; exact dgetR hp, ?_⟩
    rw [in_isSome el]
    exact k _ s1 _ B1 H1 fA emb_bl q
theorem snd_notinV (h : Snd K W (RE K) ee te) : Snd K W (RE K) (tDNotIn ee (tVar i)) (dInV true te i) := fun a B0 H0 s σ B H E P Q R L ht k =>
  h a B0 H0 s σ B H E _ _ R L ht fun d s1 v B1 H1 fA ev q => by
    obtain ⟨ky, hk, q⟩ := keyP_at q
    obtain ⟨p, kvs, ks, ds, eo, hp, ek, el, q⟩ := dctP_at fA.rel.gr.bh (fA.rel.slot i) q
    subst ek
    refine ⟨_, join_some eo, p, _, rfl, by rw [key_V hk ev]; exact dgetR hp, ?_⟩
    rw [in_isSome el]
    exact k _ s1 _ B1 H1 fA emb_bl q
theorem de_dinV (hu : X.A.units + 1 < cLine) (h : DPE X K W e ee te) (ho : PE X (.Name x p1) (tVar i)) (hb : behindInMarks .In (.Name x p1) = false := by rfl) : DPE X K W (.Compare e [.In] [.Name x p1] pos) (tDIn ee (tVar i)) (dInV false te i) := ⟨h.k, pe_cmp (pc_din hu h.pe ho) hb, snd_inV h.sn⟩
theorem dt_dinV (hu : X.A.units + 1 < cLine) (h : DPE X K W e ee te) (ho : PE X (.Name x p1) (tVar i)) (hb : behindInMarks .In (.Name x p1) = false := by rfl) : DPT X K W (.Compare e [.In] [.Name x p1] pos) (tB (tDIn ee (tVar i))) (dTest (dInV false te i)) := ⟨h.k, pt_cmp (pc_din hu h.pe ho) hb, snd_b (snd_inV h.sn)⟩
theorem de_dnotinV (hu : X.A.units + 1 < cLine) (h : DPE X K W e ee te) (ho : PE X (.Name x p1) (tVar i)) (hb : behindInMarks .NotIn (.Name x p1) = false := by rfl) : DPE X K W (.Compare e [.NotIn] [.Name x p1] pos) (tDNotIn ee (tVar i)) (dInV true te i) := ⟨h.k, pe_cmp (pc_dnotin hu h.pe ho) hb, snd_notinV h.sn⟩
theorem dt_dnotinV (hu : X.A.units + 1 < cLine) (h : DPE X K W e ee te) (ho : PE X (.Name x p1) (tVar i)) (hb : behindInMarks .NotIn (.Name x p1) = false := by rfl) : DPT X K W (.Compare e [.NotIn] [.Name x p1] pos) (tB (tDNotIn ee (tVar i))) (dTest (dInV true te i)) := ⟨h.k, pt_cmp (pc_dnotin hu h.pe ho) hb, snd_b (snd_notinV h.sn)⟩
def Sl.isD : Sl → Bool
  | .val (.dct _ _) => true
  | .ownK _ _ => true
  | _ => false
theorem isD_slot {a : Addr} {B H H0 : Hp} {sl : Sl} {o : Option V} (s : Same B H) (r : SlR K a B H H0 sl o) (h : sl.isD = true) : ∃ p kvs, o = some (.ref p) ∧ H p = some (.dK kvs) := by
  cases sl with
  | val d => cases d with
    | dct ks ds => obtain ⟨v, e, em⟩ := r; obtain ⟨p, kvs, rfl, hp, _⟩ := Emb.dct em; exact ⟨p, kvs, e, s _ _ hp⟩
    | _ => cases h
  | ownK ks ds => obtain ⟨p, kvs, e, hp, _⟩ := r; exact ⟨p, kvs, e, hp⟩
  | _ => cases h
def dGet2V (i : Nat) (t u : DE) : DE := fun s E P => (gS s i).isD = true ∧ t s E fun d s1 => u s1 E fun z s2 => keyP d fun k => dctP (gS s2 i) fun ks ds => P ((lkD ks ds k).getD z) s2
theorem de_dget2V (hu : X.A.units + 1 < cLine) (ho : PE X (.Name x p1) (tVar i)) (h : DPE X K W e ee te) (h2 : DPE X K W f ef tf) (hb : attributeBase (.Name x p1) "get" X.env (eval (.Name x p1) X.env) = eval (.Name x p1) X.env := by rfl)
    (hf : ((backTo cpos (starEach [e, f] X.env)).all (fun x => !x.1) && (backToKw cpos (keywordEach [] X.env)).all (fun x => x.1.isSome) && decide (([e, f] : List Expr).length + ([] : List Keyword).length + (if ([] : List Keyword).isEmpty then 0 else 1) < 30)) = true := by rfl) (hl : (p2.endLine == cpos.line) = true := by rfl)
    (hm : M2 X (.Name x p1) "get" p2 e f cpos := by constructor <;> rfl) :
    DPE X K W (.Call (.Attribute (.Name x p1) "get" p2) [e, f] [] cpos) (tDGet2 (tVar i) ee ef) (dGet2V i te tf) :=
  ⟨h.k, pe_dget2 hu ho h.pe h2.pe hm, fun a B0 H0 s σ B H E P Q R L ⟨hi, ht⟩ k => by
    obtain ⟨p, kvs0, eu, hp0⟩ := isD_slot R.gr.bh (R.slot i) hi
    refine ⟨_, join_some eu, p, rfl, .inl ⟨kvs0, .inl hp0⟩, h.sn a B0 H0 s σ B H E _ _ R L ht fun d s1 v B1 H1 f1 ev q => h2.sn a B0 H0 s1 σ B1 H1 E _ _ f1.rel L q fun z s2 w B2 H2 f2 ew q => ?_⟩
    obtain ⟨ky, hk, q⟩ := keyP_at q
    obtain ⟨p', kvs, ks, ds, eo, hp, ek, el, q⟩ := dctP_at f2.rel.gr.bh (f2.rel.slot i) q
    rw [eu] at eo
    cases eo
    subst ek
    have lk := lk_V el ky
    refine ⟨_, by rw [key_V hk ev]; exact dgetR hp, ?_⟩
    cases hy : lkD (kvs.map (·.1)) ds ky with
    | some y =>
      rw [hy] at lk q
      obtain ⟨u, hu', eu'⟩ := lk
      rw [hu']
      exact k y s2 u B2 H2 (f1.trans f2) eu' q
    | none =>
      rw [hy] at lk q
      rw [lk]
      exact k z s2 w B2 H2 (f1.trans f2) ew q⟩
/-! d[k] = v -/
def ownKP (sl : Sl) (P : List Key → List D → Prop) : Prop := match sl with
  | .ownK ks ds => P ks ds
  | _ => False
def dPutV (i : Nat) (tk tv : DE) : DS := fun D s => tv s D.ex fun v s1 => (gS s1 i).is = true ∧ tk s1 D.ex fun d s2 => keyP d fun k => ownKP (gS s2 i) fun ks ds => ks.length < sizeLine ∧ D.nx (s2.set i (.ownK (putKD ks ds k v).1 (putKD ks ds k v).2))
theorem ds_dput {sp : Pos} (hu : X.A.units + 1 < cLine) (ho : PE X (.Name x p1) (tVar i)) (hk : DPE X K W e ee te) (hv : DPE X K W f ef tf) (hs : swapsWith f (some (.Subscript (.Name x p1) e sp)) pos.line X.env = pure false) : DPS X K W (.Assign [.Subscript (.Name x p1) e sp] f pos) (sDPut (tVar i) ee ef) (dPutV i te tf) :=
  ⟨hk.k, ps_dput hu ho hk.pe hv.pe hs, fun a B0 H0 s σ B H D' D R L ok ht =>
    hv.sn a B0 H0 s σ B H _ _ _ R L ht fun v s1 u B1 H1 f1 ev q => by
      obtain ⟨hi, q⟩ := q
      obtain ⟨w, ew⟩ := slot_is (f1.rel.slot i) hi
      refine ⟨w, join_some ew, hk.sn a B0 H0 s1 σ B1 H1 _ _ _ f1.rel L q fun d s2 y B2 H2 f2 ey q => ?_⟩
      obtain ⟨ky, hky, q⟩ := keyP_at q
      have hsl := f2.rel.slot i
      cases qs : gS s2 i with
      | ownK ks ds =>
        rw [qs] at q hsl
        obtain ⟨p, kvs, eo, h1, h2, h3, h4, h5⟩ := hsl
        rw [ew] at eo
        cases eo
        subst h4
        have ev2 := ev.mono f2.stp.bb
        obtain ⟨pk, pe⟩ := put_V ky ev2 h5
        refine ⟨p, _, rfl, .inl ⟨kvs, ky, h1, key_V hky ey, by have := q.1; rw [List.length_map] at this; exact this, rfl⟩, ok.nx _ _ B2 _ (f2.rel.put (sl := .ownK _ _) (by rw [qs]; rfl) (join_some ew) (Stp.set f2.rel.gr.bh h2 rfl) ⟨p, _, rfl, upd_same, h2, h3, pk, pe⟩) (f1.stp.bb.trans f2.stp.bb) q.2⟩
      | _ => rw [qs] at q; exact q.elim⟩
/-! d[k] += v, of numbers -/
def dDaug (g : Int → Int → Int) (i : Nat) (tk tv : DE) : DS := fun D s => (gS s i).isD = true ∧ tk s D.ex fun d s1 => keyP d fun k => ownKP (gS s1 i) fun ks ds => match lkD ks ds k with
  | some (.int a) => tv s1 D.ex fun v s2 => (match v with
    | .int b => ownKP (gS s2 i) fun ks ds => ks.length < sizeLine ∧ D.nx (s2.set i (.ownK (putKD ks ds k (.int (g a b))).1 (putKD ks ds k (.int (g a b))).2))
    | _ => False)
  | _ => False
theorem ds_daug {op : Operator} {g : Int → Int → Int} {tp : Pos} (hu : X.A.units + 1 < cLine) (ho : PE X (.Name x p1) (tVar i)) (hk : DPE X K W e ee te) (hv : DPE X K W f ef tf) (hop : InOp X op (rI0 fun a b => .int (g a b)))
    (ha : ∀ ov iv new, augStore e ov iv new = (do holding [new, ov, iv] (setItem ov iv new); release [new, ov, iv] []; pure .next) := by exact fun _ _ _ => rfl) : DPS X K W (.AugAssign (.Subscript (.Name x p1) e tp) op f pos) (sDAug (tVar i) ee ef (rI0 fun a b => .int (g a b))) (dDaug g i te tf) :=
  ⟨hk.k, ps_daug hu ho hk.pe hv.pe hop ha, fun a B0 H0 s σ B H D' D R L ok ht => by
    obtain ⟨hi, q⟩ := ht
    obtain ⟨p, kvs0, eu, hp0⟩ := isD_slot R.gr.bh (R.slot i) hi
    refine ⟨_, join_some eu, hk.sn a B0 H0 s σ B H _ _ _ R L q fun d s1 y B1 H1 f1 ey q => ?_⟩
    obtain ⟨ky, hky, q⟩ := keyP_at q
    have hsl := f1.rel.slot i
    cases qs : gS s1 i with
    | ownK ks ds =>
      rw [qs] at q hsl
      obtain ⟨p', kvs, eo, h1, h2, h3, h4, h5⟩ := hsl
      rw [eu] at eo
      cases eo
      subst h4
      have lk := lk_V h5 ky
      have q' : (match lkD (kvs.map (·.1)) ds ky with
        | some (.int a) => tf s1 D'.ex fun v s2 => (match v with
          | .int b => ownKP (gS s2 i) fun ks ds => ks.length < sizeLine ∧ D'.nx (s2.set i (.ownK (putKD ks ds ky (.int (g a b))).1 (putKD ks ds ky (.int (g a b))).2))
          | _ => False)
        | _ => False) := q
      cases hy : lkD (kvs.map (·.1)) ds ky with
      | none => rw [hy] at q'; exact q'.elim
      | some z =>
        rw [hy] at q' lk
        obtain ⟨w, hw, ew⟩ := lk
        cases z with
        | int za =>
          cases Emb.int ew
          refine ⟨p, _, rfl, by rw [key_V hky ey, ← hw]; exact DGet.k h1, hv.sn a B0 H0 s1 σ B1 H1 _ _ _ f1.rel L q' fun v s2 u B2 H2 f2 ev q => ?_⟩
          cases v with
          | int b =>
            cases Emb.int ev
            have hs2 := f2.rel.slot i
            cases qs2 : gS s2 i with
            | ownK ks2 ds2 =>
              rw [qs2] at hs2
              dsimp only at q
              rw [qs2] at q
              obtain ⟨p2, kvs2, eo2, h12, h22, h32, h42, h52⟩ := hs2
              rw [eu] at eo2
              cases eo2
              subst h42
              obtain ⟨pk, pe⟩ := put_V ky (emb_int (K := K) (a := a) (B := B2) (i := g za b)) h52
              refine ⟨za, b, rfl, rfl, _, .inl ⟨kvs2, ky, h12, key_V hky ey, by have := q.1; rw [List.length_map] at this; exact this, rfl⟩, ok.nx _ _ B2 _ (f2.rel.put (sl := .ownK _ _) (by rw [qs2]; rfl) (join_some eu) (Stp.set f2.rel.gr.bh h22 rfl) ⟨p, _, rfl, upd_same, h22, h32, pk, pe⟩) (f1.stp.bb.trans f2.stp.bb) q.2⟩
            | _ => dsimp only at q; rw [qs2] at q; exact q.elim
          | _ => exact q.elim
        | _ => exact q'.elim
    | _ => rw [qs] at q; exact q.elim⟩
end
end Dl
set_option maxRecDepth 100000
set_option maxHeartbeats 2000000
/-! a dict of own lists -/
namespace Dl
open PySem PySem.Spec PyProof.Rows L2 Us
section
variable {K : PySem.W.Frag} {a : Addr} {B H B' H' H0 : Hp}
theorem Inn.length : ∀ {ps : List Addr} {xss : List (List D)}, Inn K a B H H0 ps xss → ps.length = xss.length
  | [], xss, h => by rw [show xss = [] from h]; rfl
  | q :: qs, xss, h => by
    obtain ⟨xs, r, us, rfl, h1, h2, h3, h4, h5, h6⟩ := h
    rw [List.length_cons, List.length_cons, h6.length]
theorem Inn.get : ∀ {ps : List Addr} {xss : List (List D)} {j : Nat} {xs : List D}, Inn K a B H H0 ps xss → xss[j]? = some xs → ∃ q us, ps[j]? = some q ∧ H q = some (.lst us) ∧ B q = none ∧ H0 q = none ∧ EmbL K a B xs us
  | [], xss, j, xs, h, e => by rw [show xss = [] from h] at e; cases e
  | q :: qs, xss, 0, xs, h, e => by
    obtain ⟨xs', r, us, rfl, h1, h2, h3, h4, h5, h6⟩ := h
    cases e
    exact ⟨q, us, rfl, h1, h2, h3, h4⟩
  | q :: qs, xss, j + 1, xs, h, e => by
    obtain ⟨xs', r, us, rfl, h1, h2, h3, h4, h5, h6⟩ := h
    obtain ⟨q', us', k1, k2⟩ := h6.get (j := j) (xs := xs) (by simpa using e)
    exact ⟨q', us', by simpa using k1, k2⟩
theorem Inn.nodup : ∀ {ps : List Addr} {xss : List (List D)}, Inn K a B H H0 ps xss → ps.Nodup
  | [], xss, h => List.nodup_nil
  | q :: qs, xss, h => by
    obtain ⟨xs', r, us, rfl, h1, h2, h3, h4, h5, h6⟩ := h
    exact List.nodup_cons.mpr ⟨h5, h6.nodup⟩
/-- one of them is written -/
theorem Inn.set {q : Addr} {ws : List V} {ys : List D} (g : Stp (Isa q) B H B' H') (hq : H' q = some (.lst ws)) (hB : B' q = none) (ey : EmbL K a B' ys ws) : ∀ {ps : List Addr} {xss : List (List D)} {j : Nat}, Inn K a B H H0 ps xss → ps[j]? = some q → Inn K a B' H' H0 ps (xss.set j ys)
  | [], xss, j, h, e => by cases e
  | p :: ps, xss, 0, h, e => by
    obtain ⟨xs', r, us, rfl, h1, h2, h3, h4, h5, h6⟩ := h
    cases e
    exact ⟨ys, r, ws, rfl, hq, hB, h3, ey, h5, h6.keep g fun p hp z => h5 (by rw [← show p = q from z]; exact hp)⟩
  | p :: ps, xss, j + 1, h, e => by
    obtain ⟨xs', r, us, rfl, h1, h2, h3, h4, h5, h6⟩ := h
    have e' : ps[j]? = some q := by simpa using e
    have hne : p ≠ q := fun z => h5 (by rw [z]; exact List.mem_of_getElem? e')
    exact ⟨xs', r.set j ys, us, rfl, g.keep _ _ hne h1, (g.old p hne (by rw [h1]; exact fun z => nomatch z)).trans h2, h3, h4.mono g.bb, h5, h6.set g hq hB ey e'⟩
/-- one of them is another one now -/
theorem Inn.put {q : Addr} {ws : List V} {ys : List D} (hq : H q = some (.lst ws)) (hB : B q = none) (h0 : H0 q = none) (ey : EmbL K a B ys ws) : ∀ {ps : List Addr} {xss : List (List D)} (j : Nat), q ∉ ps → Inn K a B H H0 ps xss → Inn K a B H H0 (ps.set j q) (xss.set j ys)
  | [], xss, j, hn, h => by rw [show xss = [] from h]; exact rfl
  | p :: ps, xss, 0, hn, h => by
    obtain ⟨xs', r, us, rfl, h1, h2, h3, h4, h5, h6⟩ := h
    exact ⟨ys, r, ws, rfl, hq, hB, h0, ey, fun z => hn (List.mem_cons_of_mem _ z), h6⟩
  | p :: ps, xss, j + 1, hn, h => by
    obtain ⟨xs', r, us, rfl, h1, h2, h3, h4, h5, h6⟩ := h
    refine ⟨xs', r.set j ys, us, rfl, h1, h2, h3, h4, fun z => ?_, h6.put hq hB h0 ey j (fun z => hn (List.mem_cons_of_mem _ z))⟩
    rcases List.mem_or_eq_of_mem_set z with z | z
    · exact h5 z
    · exact hn (by rw [z]; exact List.mem_cons_self ..)
theorem Inn.snoc {q : Addr} {ws : List V} {ys : List D} (hq : H q = some (.lst ws)) (hB : B q = none) (h0 : H0 q = none) (ey : EmbL K a B ys ws) : ∀ {ps : List Addr} {xss : List (List D)}, q ∉ ps → Inn K a B H H0 ps xss → Inn K a B H H0 (ps ++ [q]) (xss ++ [ys])
  | [], xss, hn, h => by rw [show xss = [] from h]; exact ⟨ys, [], ws, rfl, hq, hB, h0, ey, (fun z => nomatch z), rfl⟩
  | p :: ps, xss, hn, h => by
    obtain ⟨xs', r, us, rfl, h1, h2, h3, h4, h5, h6⟩ := h
    refine ⟨xs', r ++ [ys], us, rfl, h1, h2, h3, h4, fun z => ?_, h6.snoc hq hB h0 ey (fun z => hn (List.mem_cons_of_mem _ z))⟩
    rcases List.mem_append.mp z with z | z
    · exact h5 z
    · exact hn (by rw [List.mem_singleton.mp z]; exact List.mem_cons_self ..)
end
theorem kpos_lt : ∀ {ks : List Key} {k : Key} {j : Nat}, kpos ks k = some j → ks[j]? = some k
  | x :: r, k, j, h => by
    unfold kpos at h
    by_cases e : x = k
    · rw [if_pos e] at h; cases h; rw [e]; rfl
    · rw [if_neg e] at h
      cases q : kpos r k with
      | none => rw [q] at h; cases h
      | some i => rw [q] at h; cases h; simpa using kpos_lt q
theorem kpos_none : ∀ {ks : List Key} {k : Key}, kpos ks k = none → k ∉ ks
  | [], k, h => fun z => nomatch z
  | x :: r, k, h => fun z => by
    unfold kpos at h
    by_cases e : x = k
    · rw [if_pos e] at h; cases h
    · rw [if_neg e] at h
      rcases List.mem_cons.mp z with z | z
      · exact e z.symm
      · cases q : kpos r k with
        | none => exact kpos_none q z
        | some i => rw [q] at h; cases h
/-- where a key stands -/
theorem val_pos : ∀ {kvs : List (Key × V)} {k : Key}, valV kvs k = (kpos (kvs.map (·.1)) k).bind fun j => (kvs.map (·.2))[j]?
  | [], k => rfl
  | (k0, v0) :: kvs, k => by
    rw [List.map_cons, List.map_cons]
    by_cases e : k0 = k
    · rw [valV_pos (p := (k0, v0)) e, show kpos ((k0, v0).1 :: kvs.map (·.1)) k = some 0 by rw [kpos, if_pos e]]
      rfl
    · rw [valV_neg (p := (k0, v0)) e, val_pos, show kpos ((k0, v0).1 :: kvs.map (·.1)) k = (kpos (kvs.map (·.1)) k).map (· + 1) by rw [kpos, if_neg e]]
      cases kpos (kvs.map (·.1)) k <;> simp
theorem put_pos {v : V} {k : Key} : ∀ {kvs : List (Key × V)} {j : Nat}, (kvs.map (·.1)).Nodup → kpos (kvs.map (·.1)) k = some j → (kvs.map fun kv => if kv.1 = k then (kv.1, v) else kv).map (·.2) = (kvs.map (·.2)).set j v
  | (k0, v0) :: kvs, j, hn, h => by
    have hn' := List.nodup_cons.mp hn
    rw [List.map_cons, List.map_cons, List.map_cons]
    rw [List.map_cons, kpos] at h
    by_cases e : k0 = k
    · rw [if_pos e] at h
      cases h
      have : (kvs.map fun kv => if kv.1 = k then (kv.1, v) else kv) = kvs := (List.map_congr_left fun kv hkv => if_neg fun z => hn'.1 (by show k0 ∈ _; rw [e, ← z]; exact List.mem_map.mpr ⟨kv, hkv, rfl⟩)).trans (List.map_id' _)
      rw [this, if_pos (show (k0, v0).1 = k from e)]
      rfl
    · rw [if_neg e] at h
      cases q : kpos (kvs.map (·.1)) k with
      | none => rw [q] at h; cases h
      | some i =>
        rw [q] at h
        cases h
        rw [put_pos hn'.2 q, if_neg (show ¬ (k0, v0).1 = k from e)]
        rfl
/-- a slot that holds a dict of own lists -/
def nP (sl : Sl) (P : List Key → List Addr → List (List D) → Prop) : Prop := match sl with
  | .ownN (some ks) ps xss => P ks ps xss
  | _ => False
theorem nP_at {sl : Sl} {P : List Key → List Addr → List (List D) → Prop} (h : nP sl P) : ∃ ks ps xss, sl = .ownN (some ks) ps xss ∧ P ks ps xss := by
  cases sl with
  | ownN c ps xss => cases c with
    | some ks => exact ⟨ks, ps, xss, rfl, h⟩
    | none => exact h.elim
  | _ => exact h.elim
def Sl.isN : Sl → Bool
  | .ownN (some _) _ _ => true
  | _ => false
theorem isN_at {sl : Sl} (h : sl.isN = true) : ∃ ks ps xss, sl = .ownN (some ks) ps xss := by
  cases sl with
  | ownN c ps xss => cases c with
    | some ks => exact ⟨ks, ps, xss, rfl⟩
    | none => cases h
  | _ => cases h
section
variable {X : Cx} {K : PySem.W.Frag} {W : WX} {pos p1 p2 cpos : Pos} {e f g : Expr} {ee ef eg : TE} {te tf tg : DE} {i : Nat} {x : Str}
def dSetKN (i : Nat) : DS := fun D s => D.nx (s.set i (.ownN (some []) [] []))
theorem ds_setKN {pos' lp : Pos} (hN : X.N.Nodup) (hi : X.N[i]? = some x) (hx : Loc X.env.scope x) (hK : X.K = K := by rfl) (hs : swapsWith (.Dict [] [] lp) (some (.Name x pos')) pos.line X.env = pure false := by rfl) (hf : X.fn x = true ∨ X.env.scope.names.lookup x = some .local := by first | exact .inl rfl | exact .inr rfl | assumption) :
    DPS X K W (.Assign [.Name x pos'] (.Dict [] [] lp) pos) (tAsg tDNewK (gName i)) (dSetKN i) := ⟨hK, ps_set hN hi hx pe_dnewK hs hf, fun a B0 H0 s σ B H D' D R L ok ht => fun p hp => by
  have R2 := R.pure (Stp.cell (o := .dK []) R.gr.bh hp)
  refine ok.nx _ _ _ _ (R2.storeG (sl := .ownN (some []) [] []) ⟨p, [], rfl, upd_same, bfresh R.gr.bh hp, R.gr.fresh hp, rfl, rfl, (fun z => nomatch z), rfl⟩ fun q hq o => ?_) (Same.refl _) ht
  rcases adr_mem hq with h | h
  · cases h; exact R.notOw hp o
  · cases h⟩
/-- xs[E].pop(), xs a dict of own lists -/
def dNPop (i : Nat) (t : DE) : DS := fun D s => (gS s i).is = true ∧ t s D.ex fun d s1 => keyP d fun k => nP (gS s1 i) fun ks ps xss => match kpos ks k with
  | some j => (match xss[j]? with
    | some xs => xs ≠ [] ∧ D.nx (s1.set i (.ownN (some ks) ps (xss.set j xs.dropLast)))
    | none => False)
  | none => False
theorem n_look {a : Addr} {B H H0 : Hp} {ks : List Key} {ps : List Addr} {xss : List (List D)} {kvs : List (Key × V)} {k : Key} (ek : kvs.map (·.1) = ks) (ev : kvs.map (·.2) = ps.map V.ref) (hI : Inn K a B H H0 ps xss) : (∀ j xs, kpos ks k = some j → xss[j]? = some xs → ∃ q us, ps[j]? = some q ∧ valV kvs k = some (.ref q) ∧ H q = some (.lst us) ∧ B q = none ∧ H0 q = none ∧ EmbL K a B xs us) ∧ (kpos ks k = none → valV kvs k = none) := by
  refine ⟨fun j xs hj hx => ?_, fun hn => ?_⟩
  · obtain ⟨q, us, h1, h2, h3, h4, h5⟩ := hI.get hx
    exact ⟨q, us, h1, by rw [val_pos, ek, hj, ev]; simp [h1], h2, h3, h4, h5⟩
  · rw [val_pos, ek, hn]; rfl
theorem ds_npop {ap : Pos} {sp : Pos} (hu : X.A.units + 1 < cLine) (ho : PE X (.Name x p1) (tVar i)) (h : DPE X K W e ee te) (hs : NoSl e := by exact fun _ _ => rfl) (hbase : attributeBase (.Subscript (.Name x p1) e sp) "pop" X.env (eval (.Subscript (.Name x p1) e sp) X.env) = eval (.Subscript (.Name x p1) e sp) X.env := by rfl) (hline : (ap.endLine == cpos.line) = true := by rfl)
    (hsw : swapsWith (.Call (.Attribute (.Subscript (.Name x p1) e sp) "pop" ap) [] [] cpos) none pos.line X.env = pure false := by rfl) :
    DPS X K W (.Expr (.Call (.Attribute (.Subscript (.Name x p1) e sp) "pop" ap) [] [] cpos) pos) (tDrop (tBM0 K "list" rPop (tDGet (tVar i) ee))) (dNPop i te) :=
  ⟨h.k, by have hk := h.k; subst hk; exact ps_expr (pe_bm0 PySem.F.plainAttrs_list PySem.F.slot_list_pop PySem.F.type_list_pop mt_pop (pe_dget hu ho h.pe hs) hbase hline) hsw, fun a B0 H0 s σ B H D' D R L ok ⟨hi, ht⟩ => by
    obtain ⟨u, eu⟩ := slot_is (R.slot i) hi
    refine ⟨u, join_some eu, h.sn a B0 H0 s σ B H _ _ _ R L ht fun d s1 v B1 H1 f1 ev q => ?_⟩
    obtain ⟨k, hk, q⟩ := keyP_at q
    obtain ⟨ks, ps, xss, es, q⟩ := nP_at q
    have hsl := f1.rel.slot i
    rw [es] at hsl
    obtain ⟨p, kvs, eo, h1, h2, h3, h4, h5, h6, h7⟩ := hsl
    rw [eu] at eo
    cases eo
    have lk := n_look (k := k) h4 h5 h7
    cases hj : kpos ks k with
    | none => rw [hj] at q; exact q.elim
    | some j =>
      rw [hj] at q
      dsimp only at q
      cases hx : xss[j]? with
      | none => rw [hx] at q; exact q.elim
      | some xs =>
        rw [hx] at q
        obtain ⟨q0, us, k1, k2, k3, k4, k5, k6⟩ := lk.1 j xs hj hx
        obtain ⟨hne, q⟩ := q
        have hlen : 0 < us.length := by rw [k6.length]; exact List.length_pos_iff.mpr hne
        refine ⟨p, _, rfl, by rw [key_V hk ev, ← k2]; exact DGet.k h1, tyL k3, q0, us, us[us.length - 1], rfl, rfl, k3, List.getElem?_eq_getElem (by omega), ?_⟩
        have g : Stp (Isa q0) B1 H1 B1 (upd H1 q0 (.lst us.dropLast)) := Stp.set f1.rel.gr.bh k4 rfl
        have hqp : q0 ∈ ps := List.mem_of_getElem? k1
        have hpq : p ≠ q0 := fun z => h6 (by rw [z]; exact hqp)
        refine ok.nx _ _ B1 _ (f1.rel.putG (sl := .ownN (some ks) ps (xss.set j xs.dropLast)) (own_lt (by rw [es]; rfl)) g (fun q w _ => ?_) ?_ (fun q hq => ?_)) f1.stp.bb q
        · rw [show q = q0 from w, es]
          unfold adr Sl.isOwn Sl.inner
          exact List.mem_append_right _ hqp
        · rw [eu]
          exact ⟨p, kvs, rfl, g.keep _ _ hpq h1, h2, h3, h4, h5, h6, h7.set g upd_same k4 k6.dropLast k1⟩
        · rw [es]
          exact .inl hq⟩
/-- len(xs.get(E, [])) -/
def dNLen (i : Nat) (t : DE) : DE := fun s E P => (gS s i).isN = true ∧ t s E fun d s1 => keyP d fun k => nP (gS s1 i) fun ks ps xss => P (.int (((kpos ks k).bind (xss[·]?)).getD []).length) s1
theorem de_nlen {gp lp fp : Pos} (hu : X.A.units + 1 < cLine) (hm : X.mg "len" = none) (ho : PE X (.Name x p1) (tVar i)) (h : DPE X K W e ee te) (hM : M2 X (.Name x p1) "get" p2 e (.List [] lp) cpos := by constructor <;> rfl) (hg : Gl X "len" := by rfl)
    (s1 : starEach [.Call (.Attribute (.Name x p1) "get" p2) [e, .List [] lp] [] cpos] X.env = (false, eval (.Call (.Attribute (.Name x p1) "get" p2) [e, .List [] lp] [] cpos) X.env) :: starEach [] X.env := by rfl) (hpl : (backTo pos (starEach [] X.env)).any (·.1) = false := by rfl) :
    DPE X K W (.Call (.Name "len" fp) [.Call (.Attribute (.Name x p1) "get" p2) [e, .List [] lp] [] cpos] [] pos) (tCB (rLenU K) (tCons (tDGet2 (tVar i) ee (tLst tNil)) tNil)) (dNLen i te) :=
  ⟨h.k, by have hk := h.k; subst hk; exact pe_callB call_lenU hg hm (by decide +kernel) (pa_cons (pe_dget2 hu ho h.pe (pe_lst pa_nil) hM) pa_nil s1) (by decide) (by decide) s1 hpl, fun a B0 H0 s σ B H E P Q R L ⟨hi, ht⟩ k => by
    obtain ⟨ks0, ps0, xss0, es0⟩ := isN_at hi
    have hsl0 := R.slot i
    rw [es0] at hsl0
    obtain ⟨p, kvs0, eu, h01, _⟩ := hsl0
    refine ⟨_, join_some eu, p, rfl, .inl ⟨kvs0, .inl h01⟩, h.sn a B0 H0 s σ B H E _ _ R L ht fun d s1 v B1 H1 f1 ev q => ⟨(by decide), fun l hl => ?_⟩⟩
    obtain ⟨ky, hk, q⟩ := keyP_at q
    obtain ⟨ks, ps, xss, es, q⟩ := nP_at q
    have gl := Stp.cell (W := No) (o := .lst []) f1.rel.gr.bh hl
    have R2 := f1.rel.pure gl
    have f2 := f1.trans (.pure f1.rel gl)
    have hsl := R2.slot i
    rw [es] at hsl
    obtain ⟨p', kvs, eo, h1, h2, h3, h4, h5, h6, h7⟩ := hsl
    rw [eu] at eo
    cases eo
    have lk := n_look (k := ky) h4 h5 h7
    have hll := h7.length
    refine ⟨_, by rw [key_V hk ev]; exact DGet.k h1, ?_⟩
    cases hj : kpos ks ky with
    | none =>
      rw [hj] at q
      rw [lk.2 hj]
      exact ⟨l, [], rfl, .inl (SqL.of upd_same), k _ s1 _ B1 _ f2 emb_int q⟩
    | some j =>
      have hjl : j < xss.length := by
        have := (List.getElem?_eq_some_iff.mp (kpos_lt hj)).1
        have e1 := congrArg List.length h4
        have e2 := congrArg List.length h5
        simp only [List.length_map] at e1 e2
        omega
      have hx := List.getElem?_eq_getElem hjl
      obtain ⟨q0, us, k1, k2, k3, k4, k5, k6⟩ := lk.1 j _ hj hx
      rw [hj] at q
      have q' : P (.int xss[j].length) s1 := by
        simp only [Option.bind_some, hx, Option.getD_some] at q
        exact q
      rw [k2]
      exact ⟨q0, us, rfl, .inl (SqL.of k3), by rw [k6.length]; exact k _ s1 _ B1 _ f2 emb_int q'⟩⟩
/-- xs[E][J] -/
def dNIx (i : Nat) (t u : DE) : DE := fun s E P => (gS s i).is = true ∧ t s E fun d s1 => keyP d fun k => nP (gS s1 i) fun ks ps xss => match (kpos ks k).bind (xss[·]?) with
  | some xs => u s1 E fun n s2 => gS s2 i = gS s1 i ∧ (match n with
    | .int j => (match atI xs j with
      | some y => P y s2
      | none => False)
    | _ => False)
  | none => False
theorem de_nix {sp : Pos} (hu : X.A.units + 1 < cLine) (ho : PE X (.Name x p1) (tVar i)) (h : DPE X K W e ee te) (h2 : DPE X K W f ef tf) (hs : NoSl e := by exact fun _ _ => rfl) (hs2 : PlainIx f := by first | exact fun _ _ => rfl) :
    DPE X K W (.Subscript (.Subscript (.Name x p1) e sp) f pos) (tOp (rIx K) (tDGet (tVar i) ee) ef) (dNIx i te tf) :=
  ⟨h.k, pe_ix (ix_k h.k) (pe_dget hu ho h.pe hs) h2.pe hs2, fun a B0 H0 s σ B H E P Q R L ⟨hi, ht⟩ k => by
    obtain ⟨u, eu⟩ := slot_is (R.slot i) hi
    refine ⟨u, join_some eu, h.sn a B0 H0 s σ B H _ _ _ R L ht fun d s1 v B1 H1 f1 ev q => ?_⟩
    obtain ⟨ky, hk, q⟩ := keyP_at q
    obtain ⟨ks, ps, xss, es, q⟩ := nP_at q
    have hsl := f1.rel.slot i
    rw [es] at hsl
    obtain ⟨p, kvs, eo, h1, _, _, h4, h5, _, h7⟩ := hsl
    rw [eu] at eo
    cases eo
    have lk := n_look (k := ky) h4 h5 h7
    cases hj : kpos ks ky with
    | none => rw [hj] at q; exact q.elim
    | some j =>
      rw [hj, Option.bind_some] at q
      cases hx : xss[j]? with
      | none => rw [hx] at q; exact q.elim
      | some xs =>
        rw [hx] at q
        obtain ⟨q0, us, k1, k2, k3, k4, k5, k6⟩ := lk.1 j xs hj hx
        refine ⟨p, _, rfl, by rw [key_V hk ev, ← k2]; exact DGet.k h1, h2.sn a B0 H0 s1 σ B1 H1 E _ _ f1.rel L q fun n s2 w B2 H2 f2 ew q => ?_⟩
        obtain ⟨eg, q⟩ := q
        have hsl := f2.rel.slot i
        rw [eg, es] at hsl
        obtain ⟨p', kvs', eo, h1', _, _, h4', h5', _, h7'⟩ := hsl
        obtain ⟨q1, us1, l1, l3, l4, l5, l6⟩ := h7'.get hx
        rw [k1] at l1
        cases l1
        cases n with
        | int n =>
          cases Emb.int ew
          dsimp only at q
          cases ha : atI xs n with
          | none => rw [ha] at q; exact q.elim
          | some y =>
            rw [ha] at q
            obtain ⟨z, hz, ez⟩ := l6.atI ha
            exact .inl ⟨q0, us1, n, z, rfl, rfl, SqL.of l3, hz, k y s2 z B2 H2 (f1.trans f2) ez q⟩
        | _ => exact q.elim⟩
/-- xs[E] = xs.get(E, []) + [x] -/
def nPut (ks : List Key) (ps : List Addr) (xss : List (List D)) (k : Key) (q : Addr) (x : D) : Sl := match kpos ks k with
  | some j => .ownN (some ks) (ps.set j q) (xss.set j (((xss[j]?).getD []) ++ [x]))
  | none => .ownN (some (ks ++ [k])) (ps ++ [q]) (xss ++ [[x]])
def dNPut (i : Nat) (t u t' : DE) : DS := fun D s => (gS s i).isN = true ∧ t s D.ex fun d s1 => keyP d fun k => nP (gS s1 i) fun ks ps xss => u s1 D.ex fun y s2 => gS s2 i = gS s1 i ∧ (((kpos ks k).bind (xss[·]?)).getD []).length < sizeLine ∧ t' s2 D.ex fun d' s3 => keyP d' fun k' => k' = k ∧ gS s3 i = gS s1 i ∧ ks.Nodup ∧ ks.length < sizeLine ∧ ∀ q, D.nx (s3.set i (nPut ks ps xss k q y))
theorem Rel.putH {a : Addr} {B0 H0 B H B' H' : Hp} {s : List Sl} {σ : L2.St} {W : Addr → Prop} {sl : Sl} {i : Nat} (R : Rel K a B0 H0 s σ B H) (hi : i < s.length) (g : Stp W B H B' H') (hw : ∀ p, W p → H p ≠ none → p ∈ adr (gS s i) (σ[i]?.join)) (hs : SlR K a B' H' H0 sl (σ[i]?.join)) (hsub : ∀ p ∈ adr sl (σ[i]?.join), p ∈ adr (gS s i) (σ[i]?.join) ∨ ¬ Ow s σ p) : Rel K a B0 H0 (s.set i sl) σ B' H' := by
  have g1 : Stp (fun b => W b ∧ H b ≠ none) B H B' H' := g.mono fun b hb w => ⟨w, hb⟩
  have own : ∀ p, W p ∧ H p ≠ none → Ow s σ p := fun p w => ⟨i, hw p w.1 w.2⟩
  have g0 : Stp (Isa a) B0 H0 B' H' := ((R.gr.mono (W' := fun b => Isa a b ∨ H0 b = none) fun b _ w => .inl w).trans (g1.mono fun b _ w => .inr (R.own_at (own b w)).2.2.1)).unseeS fun _ h => h
  refine ⟨g0, R.h0, R.hand.mono g1 fun w => (R.own_at (own a w)).2.2.2 rfl, by rw [List.length_set]; exact R.len, fun j => ?_, fun j k p hjk hj hk => ?_⟩
  · rw [gS_set hi]
    by_cases hj : j = i
    · subst hj; rw [if_pos rfl]; exact hs
    · rw [if_neg hj]
      exact (R.slot j).keep g1 fun p hp w => R.sep i j p (Ne.symm hj) (hw p w.1 w.2) hp
  · rw [gS_set hi] at hj hk
    by_cases zj : j = i
    · subst zj
      rw [if_pos rfl] at hj
      rw [if_neg (Ne.symm hjk)] at hk
      rcases hsub p hj with h | h
      · exact R.sep j k p hjk h hk
      · exact h ⟨k, hk⟩
    · rw [if_neg zj] at hj
      by_cases zk : k = i
      · subst zk
        rw [if_pos rfl] at hk
        rcases hsub p hk with h | h
        · exact R.sep j k p hjk hj h
        · exact h ⟨j, hj⟩
      · rw [if_neg zk] at hk
        exact R.sep j k p hjk hj hk
theorem putK_some {kvs : List (Key × V)} {k : Key} {v : V} {j : Nat} (hn : (kvs.map (·.1)).Nodup) (h : kpos (kvs.map (·.1)) k = some j) : (putK kvs k v).map (·.1) = kvs.map (·.1) ∧ (putK kvs k v).map (·.2) = (kvs.map (·.2)).set j v := by
  unfold putK
  have hk := kpos_any (kvs := kvs) (k := k)
  rw [h] at hk
  rw [if_pos (show (kvs.any fun kv => decide (kv.1 = k)) = true from hk)]
  exact ⟨put_keys, put_pos hn h⟩
theorem putK_none {kvs : List (Key × V)} {k : Key} {v : V} (h : kpos (kvs.map (·.1)) k = none) : (putK kvs k v).map (·.1) = kvs.map (·.1) ++ [k] ∧ (putK kvs k v).map (·.2) = kvs.map (·.2) ++ [v] := by
  unfold putK
  have hk := kpos_any (kvs := kvs) (k := k)
  rw [h] at hk
  rw [if_neg (by rw [hk]; exact Bool.false_ne_true)]
  exact ⟨by simp, by simp⟩
theorem ds_nput {g : Expr} {eg : TE} {tg : DE} {p3 gp lp lq sp bp : Pos} (hu : X.A.units + 1 < cLine) (ho : PE X (.Name x p1) (tVar i)) (ho2 : PE X (.Name x p3) (tVar i)) (h : DPE X K W e ee te) (h2 : DPE X K W f ef tf) (h3 : DPE X K W g eg tg)
    (hs : swapsWith (.BinOp (.Call (.Attribute (.Name x p3) "get" p2) [e, .List [] lp] [] cpos) .Add (.List [f] lq) bp) (some (.Subscript (.Name x p1) g sp)) pos.line X.env = pure false) (hM : M2 X (.Name x p3) "get" p2 e (.List [] lp) cpos := by constructor <;> rfl) (hst : starEach [f] X.env = (false, eval f X.env) :: starEach [] X.env := by rfl) :
    DPS X K W (.Assign [.Subscript (.Name x p1) g sp] (.BinOp (.Call (.Attribute (.Name x p3) "get" p2) [e, .List [] lp] [] cpos) .Add (.List [f] lq) bp) pos) (sDPut (tVar i) eg (tOp rCat (tDGet2 (tVar i) ee (tLst tNil)) (tLst (tCons ef tNil)))) (dNPut i te tf tg) :=
  ⟨h.k, ps_dput hu ho h3.pe (pe_op op_cat (pe_dget2 hu ho2 h.pe (pe_lst pa_nil) hM) (pe_lst (pa_cons h2.pe pa_nil hst))) hs, fun a B0 H0 s σ B H D' D R L ok ⟨hi, ht⟩ => by
    obtain ⟨ks0, ps0, xss0, es0⟩ := isN_at hi
    have hsl0 := R.slot i
    rw [es0] at hsl0
    obtain ⟨p, kvs0, eu, h01, _⟩ := hsl0
    refine ⟨_, join_some eu, p, rfl, .inl ⟨kvs0, .inl h01⟩, h.sn a B0 H0 s σ B H _ _ _ R L ht fun d s1 v B1 H1 f1 ev q => ⟨(by decide), fun l hl => ?_⟩⟩
    obtain ⟨ky, hk, q⟩ := keyP_at q
    obtain ⟨ks, ps, xss, es, q⟩ := nP_at q
    have gl := Stp.new (W := No) (o := .lst []) f1.rel.gr.bh hl
    have f2 := f1.trans (.pure f1.rel gl)
    have hsl := f2.rel.slot i
    rw [es] at hsl
    obtain ⟨p', kvs, eo, c1, c2, c3, c4, c5, c6, c7⟩ := hsl
    rw [eu] at eo
    cases eo
    have lk := n_look (k := ky) c4 c5 c7
    refine ⟨_, by rw [key_V hk ev]; exact DGet.k c1, h2.sn a B0 H0 s1 σ _ _ _ _ _ f2.rel L q fun y s2 w B3 H3 f3 ew q => ⟨show 1 ≤ sizeLine by decide, fun m hm => ?_⟩⟩
    obtain ⟨eg2, hlen, q⟩ := q
    have gm := Stp.new (W := No) (o := .lst [w]) f3.rel.gr.bh hm
    have f4 := f3.trans (.pure f3.rel gm)
    have hsl := f4.rel.slot i
    rw [eg2, es] at hsl
    obtain ⟨_, _, _, _, _, _, _, _, _, d7⟩ := hsl
    -- the old list
    have old : ∃ b us, ((valV kvs ky).getD (.ref l)) = .ref b ∧ (upd H3 m (.lst [w])) b = some (.lst us) ∧ EmbL K a (upd B3 m (.lst [w])) (((kpos ks ky).bind (xss[·]?)).getD []) us := by
      cases hj : kpos ks ky with
      | none =>
        rw [lk.2 hj]
        exact ⟨l, [], rfl, f4.rel.gr.bh _ _ (f4.stp.bb _ _ upd_same), .nil⟩
      | some j =>
        have hjl : j < xss.length := by
          have := (List.getElem?_eq_some_iff.mp (kpos_lt hj)).1
          have e1 := congrArg List.length c4
          have e2 := congrArg List.length c5
          have e3 := c7.length
          simp only [List.length_map] at e1 e2
          omega
        have hx := List.getElem?_eq_getElem hjl
        obtain ⟨q0, us, k1, k2, k3, k4, k5, k6⟩ := lk.1 j _ hj hx
        obtain ⟨q1, us1, l1, l3, l4, l5, l6⟩ := d7.get hx
        rw [k1] at l1
        cases l1
        rw [k2, Option.bind_some, hx]
        exact ⟨q0, us1, rfl, l3, l6⟩
    obtain ⟨b, us, eb, hb, eus⟩ := old
    have wm : Emb K a (upd B3 m (.lst [w])) y w := ew.mono gm.bb
    refine ⟨b, m, us, [w], eb, rfl, hb, upd_same, by rw [eus.length]; exact hlen, fun r hr => ?_⟩
    have gr := Stp.cell (W := No) (o := .lst (us ++ [w])) f4.rel.gr.bh hr
    have R5 := f4.rel.pure gr
    refine ⟨_, join_some eu, h3.sn a B0 H0 s2 σ _ _ _ _ _ R5 L q fun d' s3 v' B6 H6 f6 ev' q => ?_⟩
    obtain ⟨k', hk', q⟩ := keyP_at q
    obtain ⟨ek, eg3, hnd, hkl, q⟩ := q
    subst ek
    have hra : r ≠ a := fun z => R5.h0 (by rw [← z]; exact f4.rel.gr.fresh hr)
    have hrO : ¬ Ow s2 σ r := f4.rel.notOw hr
    have hnW : ¬ (r = a ∨ Ow s2 σ r) := fun z => z.elim hra hrO
    have hr6 : H6 r = some (.lst (us ++ [w])) := f6.stp.keep _ _ hnW upd_same
    have hrB : B6 r = none := (f6.stp.old r hnW (by rw [upd_same]; exact fun z => nomatch z)).trans (bfresh f4.rel.gr.bh hr)
    have hrO3 : ¬ Ow s3 σ r := fun z => hrO (f6.sub r z)
    have hsl := f6.rel.slot i
    rw [eg3, es] at hsl
    obtain ⟨p', kvs6, eo, a1, a2, a3, a4, a5, a6, a7⟩ := hsl
    rw [eu] at eo
    cases eo
    have hpr : p ≠ r := fun z => hrO3 ⟨i, by rw [eu, eg3, es, z]; exact adr_root rfl⟩
    have hrp : r ∉ ps := fun z => hrO3 ⟨i, by rw [eg3, es]; unfold adr Sl.isOwn Sl.inner; exact List.mem_append_right _ z⟩
    have g := Stp.set (W := Isa p) (o := .dK (putK kvs6 k' (.ref r))) f6.rel.gr.bh a2 rfl
    have e6 : EmbL K a B6 ((((kpos ks k').bind (xss[·]?)).getD []) ++ [y]) (us ++ [w]) := (eus.append (.cons wm .nil)).mono f6.stp.bb
    have hr0 : H0 r = none := f4.rel.gr.fresh hr
    have hr7 : upd H6 p (.dK (putK kvs6 k' (.ref r))) r = some (.lst (us ++ [w])) := by rw [upd_ne (Ne.symm hpr)]; exact hr6
    have a8 := a7.keep g fun z hz e => a6 (by rw [← show z = p from e]; exact hz)
    have hl6 : kvs6.length < sizeLine := by have := congrArg List.length a4; rw [List.length_map] at this; omega
    subst a4
    refine ⟨p, _, rfl, .inl ⟨kvs6, k', a1, key_V hk' ev', hl6, rfl⟩, ok.nx _ _ B6 _ (f6.rel.putH (sl := nPut _ ps xss k' r y) (own_lt (by rw [eg3, es]; rfl)) g (fun z e _ => by rw [show z = p from e, eg3, es, eu]; exact adr_root rfl) ?_ fun z hz => ?_) ((f2.trans f4).stp.bb.trans f6.stp.bb) (q r)⟩
    · rw [eu]
      unfold nPut
      cases hj : kpos (kvs6.map (·.1)) k' with
      | none =>
        rw [hj] at e6
        obtain ⟨b1, b2⟩ := putK_none (v := .ref r) hj
        exact ⟨p, _, rfl, upd_same, a2, a3, b1, by rw [b2, a5, List.map_append]; rfl, (fun z => (List.mem_append.mp z).elim a6 fun z => hpr (List.mem_singleton.mp z)), a8.snoc hr7 hrB hr0 e6 hrp⟩
      | some j =>
        rw [hj] at e6
        obtain ⟨b1, b2⟩ := putK_some (v := .ref r) hnd hj
        exact ⟨p, _, rfl, upd_same, a2, a3, b1, by rw [b2, a5, List.map_set], (fun z => (List.mem_or_eq_of_mem_set z).elim a6 hpr), a8.put hr7 hrB hr0 e6 j hrp⟩
    · rcases adr_mem hz with h | h
      · rw [eg3, es, h]; exact .inl (adr_root rfl)
      · have hh : z ∈ ps ∨ z = r := by
          unfold nPut at h
          cases hj : kpos (kvs6.map (·.1)) k' with
          | none => rw [hj] at h; exact (List.mem_append.mp h).elim .inl fun h => .inr (List.mem_singleton.mp h)
          | some j => rw [hj] at h; exact List.mem_or_eq_of_mem_set h
        rcases hh with h | h
        · rw [eg3, es]
          unfold adr Sl.isOwn Sl.inner
          exact .inl (List.mem_append_right _ h)
        · rw [h]; exact .inr hrO3⟩
end
end Dl
set_option maxRecDepth 100000
set_option maxHeartbeats 4000000
/-! dict(xs) of a tuple of pairs -/
noncomputable section
namespace Us
open PySem PySem.Spec PyProof.Rows L2
theorem tuple_keys_none : typeLookup (.type "tuple") "keys" = pure none := am_miss_of_fast (by first | decide +kernel | rfl)
section
variable {prog : Program} {w : World} {A : Around} {E : Value → Shared → Prop}
/-- a tuple has no attribute 'keys' -/
theorem miss_tuple {s : Shared} {a : Addr} {o : Obj} {xs : Array Value} {k : Nat} {Q : Option Value → Shared → Prop} (hx : s.heap.get? a = some o) (hc : o.cls = .type "tuple") (hdat : o.data = .seq xs k) (hd : o.dict = none) (hA : A.handled = none)
    (h : ∀ h' tk, (∀ b ob, s.heap.get? b = some ob → h'.get? b = some ob) → Q none { s with heap := h', toks := tk }) : wpAny (model prog w) A (getAttr? (.ref a) "keys") Q E s := by
  obtain ⟨c, dct, dat, sl⟩ := o
  simp only at hc hdat hd
  subst hc hdat hd
  obtain ⟨hp, g, d, tk, os⟩ := s
  have hT : ∀ tk', (⟨hp, g, d, tk', os⟩ : Shared).TypeIs (.ref a) "tuple" := fun _ => ⟨_, hx, rfl⟩
  have hmiss := tuple_keys_none
  have hname : (["__module__", "__name__", "__qualname__", "__doc__", "__annotations__"] : List Str).contains "keys" = false := by decide +kernel
  have hsz : ("keys" : Str).length + 100 ≤ sizeLine := by first | size_fits | decide +kernel
  have f1 := sub_AttributeError
  have f3 := PySem.F.slot_tuple_getattribute.lookup
  have f4 := PySem.F.slot_tuple_getattribute.bind (.ref a)
  have f5 := am_tuple_getattr_none
  unfold getAttr? getAttrBy? getAttrBy
  repeat (any_goals (first | assumption | exact hT _ | ((with_reducible show wpAny _ _ (call (Value.builtin "tuple.__getattribute__") _ _) _ _ _); refine call_meets PySem.F.slot_tuple_getattribute (hT _) am_entry_tuple_getattribute (PySem.F.args_tuple_getattribute_2 _ _) (meets_getattribute_miss_tuple a xs k sl "keys" _ hmiss hname hsz) ⟨hx, hA, fun h' tk' e hx' => ?_⟩) | wp_step))
  obtain ⟨t', u', he⟩ := hx'.there
  show wpAny _ _ (getattributeRaised _ _ _ _ _ _ _) _ _ _
  unfold getattributeRaised
  repeat (any_goals (first | assumption | wp_step))
  all_goals first | exact h _ _ hx'.keeps | (dsimp only; repeat (any_goals (first | assumption | exact h _ _ hx'.keeps | wp_step)))
/-- the walk over the pairs, by the items of a tuple -/
theorem pairs_walk {R : Result → Shared → Prop} {S I l : Addr} {items : Array Value} {res : Value} (hh : A.handled = none) (hlI : l ≠ I) (hSI : S ≠ I) (hSl : S ≠ l) :
    ∀ (rest : List (Key × Value)) (i : Nat) (acc : List (Key × Value)) (ix : Int) (t : Tok) (s : Shared), items.size = i + rest.length → acc.length + rest.length ≤ sizeLine →
      (∀ (j : Nat) (q : Key × Value), rest[j]? = some q → ∃ (b : Addr) (u : Value), items[i + j]? = some (.ref b) ∧ b ≠ S ∧ b ≠ I ∧ IsTup s.heap b #[u, q.2] ∧ keyIs q.1 u = true) →
      s.heap.IsTupleIter I l i → s.heap.IsTuple l items → s.heap.DictOf (mixKind prog w) S acc →
      (∀ h' tk, h'.DictOf (mixKind prog w) S (merged acc rest) → (∀ b o, b ≠ S → b ≠ I → s.heap.get? b = some o → h'.get? b = some o) → R (.ok (.ret res)) { s with heap := h', toks := tk }) →
      codeAny (model prog w) A (.builtin "dict.update.loop" ⟨[.ref S, .ref I, .int ix t, res], []⟩) R s
  | [], i, acc, ix, t, s, hsz, hln, ht, hit, hl, hm, hR => by
    refine codeAny_builtin ud_entry ?_
    rw [Around.under_plainId ud_plain _]
    show wpAny _ A.in1 (pyNext (.ref I) >>= _) _ _ s
    refine wpAny_bind (wpAny_pyNext_tuple_end (A := A.in1) hh hit hl (by first | exact Array.getElem?_eq_none (Nat.le_of_eq hsz) | (simp at hsz; simp; omega)) fun h' he => ?_)
    show wpAny _ A.in1 (Builtin.Dict.addKeywords S [] >>= _) _ _ _
    refine wpAny_bind (wpAny_pure (wpAny_pure ?_))
    exact hR h' s.toks (hm.extBut he hSI) fun b o _ hb e => he b o hb e
  | q :: rest, i, acc, ix, t, s, hsz, hln, ht, hit, hl, hm, hR => by
    obtain ⟨b, u, hb, hbS, hbI, htup, hk⟩ := ht 0 q rfl
    rw [List.length_cons] at hsz hln
    refine codeAny_builtin ud_entry ?_
    rw [Around.under_plainId ud_plain _]
    show wpAny _ A.in1 (pyNext (.ref I) >>= _) _ _ s
    refine wpAny_bind (wpAny_pyNext_tuple_item (x := .ref b) hit hl (by simpa using hb) fun h1 hit1 hs1 => ?_)
    have ht1 : IsTup h1 b #[u, q.2] := htup.extBut hs1.extBut hbI
    have hl1 : h1.IsTuple l items := IsTup.extBut hl hs1.extBut hlI
    have hm1 : h1.DictOf (mixKind prog w) S acc := hm.extBut hs1.extBut hSI
    obtain ⟨o, ho, hc, n, hd⟩ := id ht1
    show wpAny _ A.in1 (holding [Value.ref b] _ >>= _) _ _ _
    refine wpAny_bind (wpAny_holding ?_)
    refine wpAny_bind (wpAny_tryCatch ?_)
    unfold Builtin.Dict.pairItems
    refine wpAny_bind (wpAny_typeOf (T := "tuple") ⟨o, ho, hc⟩ ?_)
    rw [if_pos (by first | decide | rfl | simp)]
    refine wpAny_bind (wpAny_seqItems ho hd (wpAny_pure ?_))
    show wpAny _ A.in1 (holding [u, q.2] (dictSet S u q.2)) _ _ _
    refine wpAny_holding (wpAny_dictSet_pairs (knd := mixKind prog w) (k := q.1) hk hm1 (fun h2 hm2 hs2 => ?_) (by omega))
    refine wpAny_pure ⟨plainId_quiet ud_plain _, pairs_walk (items := items) hh hlI hSI hSl rest (i + 1) (stored acc q.1 q.2) (ix + 1) 0 _ (show items.size = i + 1 + rest.length by omega) ?_ (fun j q' e => ?_) ?_ ?_ hm2 fun h' tk hd' k => ?_⟩
    · have z := stored_length_le acc q.1 q.2
      omega
    · obtain ⟨b', u', hb', hbS', hbI', htup', hk'⟩ := ht (j + 1) q' (by simpa using e)
      refine ⟨b', u', ?_, hbS', hbI', (htup'.extBut hs1.extBut hbI').extBut hs2.extBut hbS', hk'⟩
      rw [show i + 1 + j = i + (j + 1) by omega]
      exact hb'
    · obtain ⟨oi, e1, e2⟩ := hit1
      exact ⟨oi, hs2.extBut I oi (Ne.symm hSI) e1, e2⟩
    · exact IsTup.extBut hl1 hs2.extBut (Ne.symm hSl)
    · exact hR h' tk hd' fun c oc h3 h4 e => k c oc h3 h4 (hs2.extBut c oc h3 (hs1.extBut c oc h4 e))
/-- dict(t) of a tuple of pairs -/
theorem call_dict_tup {s : Shared} {l : Addr} {ol : Obj} {items : Array Value} {n : Nat} {prs : List (Key × Value)} {Q : Value → Shared → Prop} (hh : A.handled = none) (hl : s.heap.get? l = some ol) (hc : ol.cls = .type "tuple") (hd : ol.dict = none)
    (hdat : ol.data = .seq items n) (hsz : items.size = prs.length) (hln : prs.length ≤ sizeLine)
    (ht : ∀ (j : Nat) (q : Key × Value), prs[j]? = some q → ∃ (b : Addr) (u : Value), items[j]? = some (.ref b) ∧ IsTup s.heap b #[u, q.2] ∧ keyIs q.1 u = true)
    (h : ∀ h' tk, h'.DictOf (mixKind prog w) s.heap.objs.size (merged [] prs) → (∀ b o, s.heap.get? b = some o → h'.get? b = some o) → Q (.ref s.heap.objs.size) { s with heap := h', toks := tk }) :
    wpAny (model prog w) A (call (.type "dict") [.ref l]) Q E s := by
  refine callType_codes (Q₁ := fun obj s₁ => obj = .ref s.heap.objs.size ∧ s₁ = { s with heap := s.heap.push { cls := .type "dict", data := .dict #[] } }) PySem.F.kt_called_dict (PySem.F.kt_typeCall_dict_1 _) PySem.F.entry_dict_init (kt_code_dict_new _ ⟨rfl, rfl⟩) ?_
  rintro obj s₁ ⟨rfl, rfl⟩
  have hnew : (s.heap.push { cls := .type "dict", data := .dict #[] }).DictOf (mixKind prog w) s.heap.objs.size [] := Heap.DictOf.new s.heap
  have k0 : ∀ b o, s.heap.get? b = some o → (s.heap.push { cls := .type "dict", data := .dict #[] }).get? b = some o := fun b o e => Heap.get?_push_of_some _ e
  refine ⟨hnew.typeIs, PySem.F.args_dict_init_2 _ _, ?_⟩
  unfold Builtin.«dict.__init__»
  refine wpAny_bind ?_
  unfold Builtin.Dict.selfAndRest
  refine wpAny_bind (wpAny_notOrdered_dict hnew.typeIs ?_)
  show wpAny _ _ (pure (s.heap.objs.size, [Value.ref l])) _ _ _
  refine wpAny_pure ?_
  show wpAny _ _ (Builtin.Dict.updateFrom "dict.__init__" s.heap.objs.size (.ref l) [] .none) _ _ _
  unfold Builtin.Dict.updateFrom
  refine wpAny_bind (wpAny_typeOf (T := "tuple") ⟨ol, k0 _ _ hl, hc⟩ ?_)
  rw [if_pos (by first | decide | rfl | simp)]
  refine wpAny_bind (miss_tuple (k0 _ _ hl) hc hdat hd hh fun h1 tk1 hk1 => ?_)
  rw [if_pos (show (none : Option Value).isNone = true from rfl)]
  refine wpAny_bind (wpAny_rule ?_)
  have hl1 : h1.IsTuple l items := ⟨ol, hk1 _ _ (k0 _ _ hl), hc, n, hdat⟩
  have hS1 : s.heap.objs.size < h1.objs.size := by
    have e : (s.heap.push { cls := .type "dict", data := .dict #[] }).get? s.heap.objs.size = some { cls := .type "dict", data := .dict #[] } := Heap.get?_push_size _ rfl
    exact Heap.lt_size (hk1 _ _ e)
  refine wpAny_bind (wpAny_pyIter_tuple hl1 ?_)
  have k2 : ∀ b o, h1.get? b = some o → (h1.push { cls := .type "tuple_iterator", data := .fields #[.ref l, .int 0 0] }).get? b = some o := fun b o e => Heap.get?_push_of_some _ e
  have hlt : l < s.heap.objs.size := Heap.lt_size hl
  have key := pairs_walk (prog := prog) (w := w) (A := A.in1) (R := wants (fun r s₂ => r = .none ∧ Q (.ref s.heap.objs.size) s₂) E) (S := s.heap.objs.size) (I := h1.objs.size) (l := l) (items := items) (res := Value.none) hh
    (Nat.ne_of_lt (Nat.lt_trans hlt hS1)) (Nat.ne_of_lt hS1) (Nat.ne_of_gt hlt) prs 0 [] 0 0
    { s with heap := h1.push { cls := .type "tuple_iterator", data := .fields #[.ref l, .int 0 0] }, toks := tk1 } (by rw [hsz, Nat.zero_add]) (by rw [List.length_nil, Nat.zero_add]; exact hln)
    (fun j q e => by
      obtain ⟨b, u, e1, e2, e3⟩ := ht j q e
      have hb : b < s.heap.objs.size := e2.lt
      exact ⟨b, u, by rw [Nat.zero_add]; exact e1, Nat.ne_of_lt hb, Nat.ne_of_lt (Nat.lt_trans hb hS1), e2.keeps fun c o z => k2 _ _ (hk1 _ _ (k0 _ _ z)), e3⟩)
    ⟨_, Heap.get?_push_size _ rfl, rfl, rfl⟩ ⟨ol, k2 _ _ (hk1 _ _ (k0 _ _ hl)), hc, n, hdat⟩ ((hnew.at fun o e => hk1 _ _ e).at fun o e => k2 _ _ e)
    (fun h' tk hd' k => ⟨rfl, h h' tk hd' fun b o e => k b o (Nat.ne_of_lt (Heap.lt_size e)) (Nat.ne_of_lt (Nat.lt_trans (Heap.lt_size e) hS1)) (k2 _ _ (hk1 _ _ (k0 _ _ e)))⟩)
  first
    | exact wpAny_pure ⟨plainId_quiet ud_plain _, key⟩
    | exact wpAny_bind (wpAny_pure (wpAny_pure ⟨plainId_quiet ud_plain _, key⟩))
end
section
variable {X : Cx}
/-- a tuple that is known whole -/
def PT (H : Hp) (a : Addr) (us : List V) : Prop := ∃ o : Obj, H a = some (.frz o (.tup us)) ∧ o.cls = .type "tuple" ∧ o.dict = none
/-- tuple(xs), xs a list: known whole -/
def rTupF (K : PySem.W.Frag) : List V → Hp → VK → Prop := fun xs H Q => ∃ p ys, xs = [.ref p] ∧ SqL K H p ys ∧ ∀ l (o : Obj), H l = none → o.cls = .type "tuple" → o.dict = none → Q (.ref l) (upd H l (.frz o (.tup ys)))
theorem call_tupF : CallR X (.type "tuple") (rTupF X.K) := by
  intro pins s σ H xs us Q I r h
  obtain ⟨p, ys, rfl, hq, q⟩ := h
  obtain ⟨u, rfl, rx⟩ := vals1 r
  cases rx
  obtain ⟨its, r', pl, hz⟩ := I.list hq
  have hlen := r'.length
  refine call_tuple_list pl.isList (fun h' kp => ?_) (by simp only [List.size_toArray] <;> omega)
  have I1 : Inv X pins σ H { s with heap := h' } := I.kept (t' := s.toks) kp
  have I2 : Inv X pins σ (upd H h'.objs.size (.frz { cls := .type "tuple", data := .seq its.toArray } (.tup ys))) { s with heap := h'.push { cls := .type "tuple", data := .seq its.toArray } } :=
    I1.laid (t' := s.toks) (fun b o e => Heap.get?_push_of_some _ e) (Nat.le_refl _) (show ObjOk X.prog X.w _ _ _ (.frz { cls := .type "tuple", data := .seq its.toArray } (.tup ys)) from ⟨Heap.get?_push_size _ rfl, (show ObjOk X.prog X.w _ _ _ (.tup ys) from ⟨hz, its, r', IsTup.new _ _⟩)⟩)
  exact ⟨.ref h'.objs.size, _, I2, rfl, q _ _ (I1.hok.fresh (Nat.le_refl _)) rfl rfl⟩
/-- dict(t) -/
def rDictT (K : PySem.W.Frag) : List V → Hp → VK → Prop := fun xs H Q => ∃ (a : Addr) (ps : List Addr) (kvs : List (Key × V)), xs = [.ref a] ∧ PT H a (ps.map V.ref) ∧ Paired (fun p kv => SqT K H p [kV kv.1, kv.2]) ps kvs ∧ ∀ p, H p = none → Q (.ref p) (upd H p (.dK (mergeK [] kvs)))
theorem call_dictT (hcalm : X.calm = true) : CallR X (.type "dict") (rDictT X.K) := by
  intro pins s σ H xs us Q I r q
  obtain ⟨a, ps, kvs, ex, ⟨o, hq, oc, od⟩, hp, q⟩ := q
  subst ex
  obtain ⟨u, eu, rx⟩ := vals1 r
  subst eu
  cases rx
  obtain ⟨ho, hz, its, rv, o', ho', _, n, hdat⟩ := (show s.heap.get? a = some o ∧ ObjOk X.prog X.w H s.heap a (.tup (ps.map V.ref)) from I.hok a _ hq)
  rw [ho] at ho'
  cases ho'
  have ei := refs_at rv
  subst ei
  rw [List.length_map] at hz
  obtain ⟨prs, rel, hl, hpr⟩ := pairs_of I hp
  refine call_dict_tup (prs := prs) (I.ok.hd hcalm) ho oc od hdat (by simp [hl]) (by rw [hl]; exact hz) (fun j q' e => ?_) fun h' tk hd' k => ?_
  · obtain ⟨b, u, e1, e2, e3⟩ := hpr j q' e
    exact ⟨b, u, by simp [e1], e2, e3⟩
  · have hm : (s.heap.objs.size == sysModules) = false := beq_eq_false_iff_ne.mpr (Nat.ne_of_gt I.big)
    have hlen : (mergeK [] kvs).length ≤ sizeLine := by
      refine Nat.le_trans (length_mergeK kvs []) ?_
      rw [List.length_nil, Nat.zero_add, rel.length, hl]
      exact hz
    exact ⟨.ref s.heap.objs.size, upd H s.heap.objs.size (.dK (mergeK [] kvs)), I.laid (t' := tk) k (Nat.le_refl _) (show ObjOk X.prog X.w _ _ _ (.dK (mergeK [] kvs)) from ⟨hlen, hm, merged [] prs, KV.merge rel .nil, hd'⟩), rfl, q _ (I.hok.fresh (Nat.le_refl _))⟩
end
end Us
end
set_option maxRecDepth 100000
set_option maxHeartbeats 4000000
/-! sets of texts: set(xs) of a list of texts, sorted of it -/
noncomputable section
namespace Us
open PySem PySem.Spec PyProof.Rows L2 PySem.Froz
/-- the set at S holds the texts l -/
structure TxS (P : Program) (w : World) (h : Heap) (S : Addr) (l : List Str) : Prop where
  ex : ∃ D : SD, h.get? S = some (sObj "set" D) ∧ TxOk P w D l ∧ Ris D.2.2.place.toList ∧ (w.params.followText "set-order" = true ∨ D.2.2.led = true)
  nd : l.Nodup
section
variable {P : Program} {w : World} {A : Around} {E : Value → Shared → Prop} {s : Shared} {S : Addr} {l : List Str}
theorem TxS.at {h h' : Heap} (x : TxS P w h S l) (k : ∀ o, h.get? S = some o → h'.get? S = some o) : TxS P w h' S l := by
  obtain ⟨⟨D, e, r⟩, n⟩ := x
  exact ⟨⟨D, k _ e, r⟩, n⟩
theorem tail_ris {ep : Nat} {es : Array (Int × Value)} {t : SetTable} {b : Bool} (r : Ris t.place.toList) : Ris (tailTx ep es t b).2.2.place.toList := by
  unfold tailTx
  split
  · exact relayAll_ris _ _ _
  · exact r
theorem tail_led {ep : Nat} {es : Array (Int × Value)} {t : SetTable} {b : Bool} : (tailTx ep es t b).2.2.led = t.led := by
  unfold tailTx
  split
  · exact relayAll_led _ _ _
  · rfl
theorem addTx_ris {D : SD} {h : Int} {v : Value} (r : Ris D.2.2.place.toList) : Ris (addTx h v D).2.2.place.toList := by
  have hr := layNew_ris D.2.2 D.1 h v r
  unfold addTx
  exact tail_ris (by split <;> exact hr)
theorem addTx_led {D : SD} {h : Int} {v : Value} : (addTx h v D).2.2.led = D.2.2.led := by
  have hl := layNew_led D.2.2 D.1 h v
  unfold addTx
  rw [tail_led]
  split <;> exact hl
theorem setAdd_in {D : SD} {k : Str} {u : Tok} {Q : Bool → Shared → Prop} (ho : s.heap.get? S = some (sObj "set" D)) (F : TxOk P w D l) (hk : k ∈ l) (hb : l.length < scanBound) (h : Q false s) : wpAny (model P w) A (setAddHashed S (.str k u) (hashStr w k)) Q E s := by
  obtain ⟨es, ep, t⟩ := D
  have hd : (sObj "set" (es, ep, t)).data = .set es ep t := rfl
  have hel : ElemsOf (strKind P w) es.toList := F.el
  have hb0 : es.size < scanBound := by have : es.size = l.length := F.sz; omega
  have hkey : (strKind P w).is k (.str k u) = true := is_str k u
  unfold setAddHashed setAddHashedIn
  refine wpAny_holding (wpAny_bind (wpAny_setState_of ho hd F.fit ?_))
  dsimp only
  rw [byScan_of rfl hb0 hel]
  simp only [↓reduceIte]
  unfold setAddByScan
  refine wpAny_bind ?_
  refine wpAny_bind (wpAny_rule ?_)
  refine wpAny_bind (wpAny_setScan_of (knd := strKind P w) (k := k) hkey ho hd F.fit hel ?_)
  obtain ⟨e, he, z⟩ := (F.mem k).mp hk
  cases hf : List.findIdx? (fun e => (strKind P w).is k e.2) es.toList with
  | none =>
    have := List.findIdx?_eq_none_iff.mp hf e he
    rw [z] at this
    cases this
  | some j =>
    dsimp only
    exact wpAny_pure (wpAny_pure h)
/-- an add -/
theorem TxS.add {k : Str} {u : Tok} {Q : Bool → Shared → Prop} (x : TxS P w s.heap S l) (hb : l.length + 1 < scanBound) (h : ∀ b h' l', Heap.SameBut S s.heap h' → TxS P w h' S l' → (∀ z, z ∈ l' ↔ z = k ∨ z ∈ l) → l'.length ≤ l.length + 1 → Q b { s with heap := h', toks := s.toks + 1 }) :
    wpAny (model P w) A (setAdd S (.str k u)) Q E s := by
  obtain ⟨⟨D, e, F, r, d⟩, n⟩ := x
  unfold setAdd
  refine wpAny_holding ?_
  refine wpAny_bind ((strKind P w).pyHash (is_str k u) ?_)
  by_cases hk : k ∈ l
  · refine setAdd_in (s := { s with toks := s.toks + 1 }) e F hk (by omega) ?_
    exact h false s.heap l (Heap.SameBut.refl _ _) ⟨⟨D, e, F, r, d⟩, n⟩ (fun z => ⟨.inr, fun q => q.elim (fun q => by rw [q]; exact hk) id⟩) (Nat.le_succ _)
  · refine add_x (s := { s with toks := s.toks + 1 }) e F hk hb ?_
    refine h true (s.heap.update S (fun _ => sObj "set" (addTx (hashStr w k) (.str k u) D))) (k :: l) (Heap.SameBut.update ..) ⟨⟨_, get_upd _ e rfl, add_ok u F, addTx_ris r, by rw [addTx_led]; exact d⟩, List.nodup_cons.mpr ⟨hk, n⟩⟩ (fun z => List.mem_cons) (Nat.le_refl _)
theorem txs_fresh {h : Heap} (e : h.get? S = some (sObj "set" (#[], 0, .fresh 0 0 (!w.params.followText "set-order")))) : TxS P w h S [] :=
  ⟨⟨_, e, TxOk.nil rfl, List.Pairwise.nil, by
    show _ ∨ (!w.params.followText "set-order") = true
    cases w.params.followText "set-order"
    · exact .inr rfl
    · exact .inl rfl⟩, List.nodup_nil⟩
/-- behind i of the texts -/
def TxJ (P : Program) (w : World) (S : Addr) (xs : List Str) (i : Nat) (h : Heap) : Prop := ∃ l, TxS P w h S l ∧ (∀ z, z ∈ l ↔ z ∈ xs.take i) ∧ l.length ≤ i
/-- the loop of set.update, told by what an add does -/
theorem set_walk {I : Addr} {fp wr : List Addr} {G : Array GenState → Array GenState → Prop} {n : Nat} {Pv : Nat → Value → Prop} {St : Nat → Shared → Prop} {R : Result → Shared → Prop} (W : WalksS P w A.in1 I fp wr G n Pv St) (hSf : S ∉ fp)
    (h0 : Heap) (hS0 : h0.get? S = none) (hw0 : ∀ b ∈ wr, h0.get? b = none) (J : Nat → Heap → Prop) (hJ : ∀ i h h', J i h → (∀ o, h.get? S = some o → h'.get? S = some o) → J i h')
    (st : ∀ i v s (Q : Bool → Shared → Prop), i < n → Pv i v → J i s.heap → (∀ b h', Heap.SameBut S s.heap h' → J (i + 1) h' → Q b { s with heap := h', toks := s.toks + 1 }) → ∀ E', wpAny (model P w) A.in1 (setAdd S v) Q E' s) :
    ∀ (k i : Nat) (s : Shared), n - i = k → i ≤ n → St i s → (∀ b o, h0.get? b = some o → s.heap.get? b = some o) → J i s.heap →
      (∀ s', Moved (S :: wr) G s s' → J n s'.heap → (∀ b o, h0.get? b = some o → s'.heap.get? b = some o) → R (.ok (.ret .none)) s') →
      codeAny (model P w) A (.builtin "set.update.loop" ⟨[.ref S, .ref I], []⟩) R s := by
  have hSw : S ∉ wr := fun h => hSf (W.sub _ h)
  have hsub : ∀ b ∈ wr, b ∈ S :: wr := fun b hb => List.mem_cons_of_mem _ hb
  have old : ∀ {s s' : Shared}, Moved wr G s s' → (∀ b o, h0.get? b = some o → s.heap.get? b = some o) → ∀ b o, h0.get? b = some o → s'.heap.get? b = some o := fun hm k b o e =>
    hm.heap b o (fun hb => by rw [hw0 b hb] at e; cases e) (k b o e)
  intro k
  induction k with
  | zero =>
    intro i s hk hi hst hkp hj hR
    obtain rfl : i = n := by omega
    refine codeAny_builtin PyProof.Rows.F.entry_set_update_loop ?_
    rw [Around.under_plainId PyProof.Rows.F.plain_set_update_loop _]
    show wpAny _ A.in1 (pyNext (.ref I) >>= _) _ _ s
    refine wpAny_bind (W.done s _ _ hst fun s' hm => ?_)
    show wpAny _ A.in1 (ret Value.none) _ _ s'
    exact wpAny_pure (hR s' (hm.mono hsub) (hJ _ _ _ hj fun o e => hm.heap S o hSw e) (old hm hkp))
  | succ k ih =>
    intro i s hk hi hst hkp hj hR
    have hlt : i < n := by omega
    refine codeAny_builtin PyProof.Rows.F.entry_set_update_loop ?_
    rw [Around.under_plainId PyProof.Rows.F.plain_set_update_loop _]
    show wpAny _ A.in1 (pyNext (.ref I) >>= _) _ _ s
    refine wpAny_bind (W.item i s _ _ hlt hst fun v s' hP hst' hm => ?_)
    have hj' := hJ _ _ _ hj fun o e => hm.heap S o hSw e
    have hkp' := old hm hkp
    show wpAny _ A.in1 (holding [v] (setAdd S v) >>= _) _ _ s'
    refine wpAny_bind (wpAny_holding (st i v s' _ hlt hP hj' (fun b h' hsb hj2 => ?_) _))
    have kp2 : ∀ b o, h0.get? b = some o → h'.get? b = some o := fun b o e => (hsb.2 b (fun z => by rw [z, hS0] at e; cases e)).trans (hkp' b o e)
    refine wpAny_pure ⟨plainId_quiet PyProof.Rows.F.plain_set_update_loop _, ih (i + 1) _ (by omega) hlt (W.frame _ s' _ _ hst' (Nat.le_succ _) fun b hb o e => ?_) kp2 hj2 fun s'' hm'' hj'' kp'' => ?_⟩
    · rw [hsb.2 b (fun h : b = S => hSf (by rw [← h]; exact hb))]; exact e
    · refine hR s'' (Moved.trans W.gtrans ((hm.mono hsub).then_heap (Nat.le_succ _) fun b o hb e => ?_) hm'') hj'' kp''
      rw [hsb.2 b (fun h : b = S => hb (by rw [h]; exact List.mem_cons_self))]; exact e
theorem txj_step {xs : List Str} {i : Nat} {s : Shared} {k : Str} {u : Tok} {Q : Bool → Shared → Prop} (hk : xs[i]? = some k) (hb : xs.length < scanBound) (j : TxJ P w S xs i s.heap) (h : ∀ b h', Heap.SameBut S s.heap h' → TxJ P w S xs (i + 1) h' → Q b { s with heap := h', toks := s.toks + 1 }) : wpAny (model P w) A (setAdd S (.str k u)) Q E s := by
  obtain ⟨l, x, m, n⟩ := j
  have hi := (List.getElem?_eq_some_iff.mp hk).1
  refine x.add (by omega) fun b h' l' sb x' m' n' => h b h' sb ⟨l', x', fun z => ?_, by omega⟩
  rw [m' z, m z, List.take_add_one, hk, List.mem_append]
  simp only [Option.toList, List.mem_singleton]
  exact Or.comm
theorem txj_zero {xs : List Str} {h : Heap} (x : TxS P w h S []) : TxJ P w S xs 0 h := ⟨[], x, fun z => by simp, Nat.le_refl _⟩
abbrev newSetO (w : World) : Obj := { cls := .type "set", dict := none, data := .set #[] 0 (.fresh 0 0 (!w.params.followText "set-order")) }
/-- set(xs) -/
theorem call_set_txts {a : Addr} {items : Array Value} {xs : List Str} {Q : Value → Shared → Prop} (hh : A.handled = none) (hl : s.heap.IsList a items) (hi : StrsAre items.toList xs) (hb : xs.length < scanBound)
    (h : ∀ (h' : Heap) (tk : Nat) l, TxS P w h' s.heap.objs.size l → (∀ z, z ∈ l ↔ z ∈ xs) → l.length ≤ xs.length → (∀ b o, s.heap.get? b = some o → h'.get? b = some o) → Q (.ref s.heap.objs.size) { s with heap := h', toks := tk }) :
    wpAny (model P w) A (call (.type "set") [.ref a]) Q E s := by
  have hisz : items.size = xs.length := by rw [← Array.length_toList]; exact hi.length
  obtain ⟨c, tl, hmro⟩ := F.called_set.mro
  have hmade := F.called_set.made
  have hsub := F.called_set.sub
  refine wpAny_call (codeAny_of_tree ?_)
  show wpAny _ _ (callAny (.type "set") _) _ _ _
  refine wpAny_pure ⟨Code.quiet_builtin _ (by decide +kernel), codeAny_builtin F.entry_type_call ?_⟩
  rw [Around.under_plain (weight_type_call_type "set" [.ref a] []) rfl]
  have h1 := F.called_set.notType
  have h2 := F.called_set.canCreate
  have hct := F.typeCall_set_1 (.ref a)
  repeat (any_goals (first | assumption | wp_step))
  refine codeAny_mono (code_set_led1 (.ref a) (E := E) (Q₁ := fun obj s₁ => obj = .ref s.heap.objs.size ∧ s₁ = { s with heap := s.heap.push (newSetO w) }) ⟨rfl, rfl⟩) fun r s₁ hr => ?_
  cases r with
  | error e => exact hr
  | ok fl =>
    cases fl with
    | ret obj =>
      obtain ⟨rfl, rfl⟩ := hr
      have hS : (s.heap.push (newSetO w)).get? s.heap.objs.size = some (newSetO w) := Heap.get?_push_size _ rfl
      have hT : Shared.TypeIs { s with heap := s.heap.push (newSetO w) } (.ref s.heap.objs.size) "set" := ⟨_, hS, rfl⟩
      have hli := F.called_set.init.lookup
      have hbi := F.called_set.init.bind (.ref s.heap.objs.size)
      repeat (any_goals (first | assumption | wp_step))
      refine codeAny_mono (codeAny_call_builtin (R := wants (fun r s₂ => r = .none ∧ ∃ h' tk, s₂ = { s with heap := h', toks := tk } ∧ TxJ P w s.heap.objs.size xs xs.length h' ∧ (∀ b o, s.heap.get? b = some o → h'.get? b = some o)) E) F.called_set.init.plain F.entry_set_init (check_set_init_1 hT ?_)) fun r₂ s₂ hr₂ => ?_
      · obtain ⟨ol, hol, hcl, nl, hdl⟩ := hl
        obtain ⟨ocls, odict, odata, oslots⟩ := ol
        simp only at hcl hdl
        subst hcl; subst hdl
        have hol' : (s.heap.push (newSetO w)).get? a = some { cls := .type "list", dict := odict, data := .seq items nl, slots := oslots } := Heap.get?_push_of_some _ hol
        have hsls := F.sub_list_set
        have hslf := F.sub_list_frozenset
        have hne : (Value.type "list" == Value.type "dict") = false := by decide
        have hl1 : (s.heap.push (newSetO w)).IsList a items := ⟨_, hol', rfl, nl, rfl⟩
        unfold Builtin.«set.__init__» noKeywords Builtin.Frozenset.updateFrom
        generalize hPI : pyIter = PI
        wp_walk
        subst hPI
        refine wpAny_pyIter_list hl1 ?_
        refine wpAny_bind (wpAny_runValue ?_)
        have haS : a < s.heap.objs.size := Heap.lt_size hol
        have hh3 : A.in1.in1.in1.handled = none := by simp [hh]
        have hneI : a ≠ (s.heap.push (newSetO w)).objs.size := by rw [Heap.size_push]; exact Nat.ne_of_lt (Nat.lt_succ_of_lt haS)
        have hSf : s.heap.objs.size ∉ [(s.heap.push (newSetO w)).objs.size, a] := by
          rw [Heap.size_push]; simp only [List.mem_cons, List.mem_singleton, List.not_mem_nil, or_false, not_or]
          exact ⟨Nat.ne_of_lt (Nat.lt_succ_self _), Nat.ne_of_gt haS⟩
        have far : ∀ b, s.heap.objs.size ≤ b → s.heap.get? b = none := fun b hb => by
          cases q : s.heap.get? b with
          | none => rfl
          | some o => exact absurd (Nat.lt_of_lt_of_le (Heap.lt_size q) hb) (Nat.lt_irrefl _)
        refine set_walk ((Walks.list hh3 _ a hneI items).toS) hSf s.heap (far _ (Nat.le_refl _)) (fun b hb => far b (by rw [List.mem_singleton.mp hb, Heap.size_push]; exact Nat.le_succ _)) (TxJ P w s.heap.objs.size xs)
          (fun i h h' ⟨l, x, r⟩ k => ⟨l, x.at k, r⟩) (fun i v s' Q hi' hP hj k E' => ?hst) (items.size - 0) 0 _ (by omega) (Nat.zero_le _) ⟨⟨_, Heap.get?_push_size _ rfl, rfl, rfl⟩, (hl1.push _)⟩ (fun b o e => Heap.get?_push_of_some _ (Heap.get?_push_of_some _ e)) (txj_zero (txs_fresh (Heap.get?_push_of_some _ hS))) ?hR
        case hst =>
          obtain ⟨t, rfl⟩ := SS.strs_at hi i v (by rw [Array.getElem?_toList]; exact hP)
          have hx : xs[i]? = some (xs.getD i Str.empty) := by
            have : i < xs.length := by omega
            simp [this]
          exact txj_step hx hb hj k
        case hR =>
          intro s' hm hj hkp
          obtain ⟨h', g2, d', tk', os'⟩ := s'
          have eg : g2 = s.gens := hm.gens
          have ed : d' = s.drawn := hm.drawn
          have eo : os' = s.os := hm.os
          subst eg; subst ed; subst eo
          show wpAny _ _ _ _ _ _
          refine wpAny_pure ?_
          show wpAny _ _ (ret Value.none) _ _ _
          rw [hisz] at hj
          exact wpAny_pure ⟨rfl, h', tk', rfl, hj, hkp⟩
      · cases r₂ with
        | error e => exact hr₂
        | ok fl₂ =>
          cases fl₂ with
          | ret r =>
            obtain ⟨rfl, h', tk, rfl, ⟨l, x, m, n⟩, hk'⟩ := hr₂
            repeat (any_goals (first | assumption | wp_step))
            exact h _ _ l x (fun z => by rw [m z, List.take_length]) n hk'
          | _ => exact hr₂.elim
    | _ => exact hr.elim
end
end Us
end
set_option maxRecDepth 100000
set_option maxHeartbeats 4000000
noncomputable section
namespace Us
open PySem PySem.Spec PyProof.Rows L2 PySem.Froz
/-- a list with the members of another one, none twice, and no longer -/
theorem perm_of_sub {α : Type} [DecidableEq α] : ∀ {l m : List α}, l.Nodup → (∀ z, z ∈ l → z ∈ m) → m.length ≤ l.length → m.Perm l
  | [], m, _, _, h => by rw [List.eq_nil_of_length_eq_zero (Nat.le_zero.mp h)]
  | x :: l, m, n, hs, h => by
    obtain ⟨n1, n2⟩ := List.nodup_cons.mp n
    have hx := hs x (List.mem_cons_self ..)
    have p := List.perm_cons_erase hx
    have hl : (m.erase x).length ≤ l.length := by rw [List.length_erase_of_mem hx]; simp at h; omega
    refine p.trans (List.Perm.cons x (perm_of_sub n2 (fun z hz => ?_) hl))
    have hm := hs z (List.mem_cons_of_mem _ hz)
    exact (List.mem_erase_of_ne (fun e : z = x => n1 (by rw [← e]; exact hz))).mpr hm
theorem strs_of : ∀ (us : List Value), (∀ v ∈ us, ∃ k tk, v = Value.str k tk) → ∃ ks, StrsAre us ks ∧ ∀ k, k ∈ ks ↔ ∃ v ∈ us, ∃ tk, v = Value.str k tk
  | [], _ => ⟨[], .nil, fun k => by simp⟩
  | v :: us, h => by
    obtain ⟨k0, tk0, rfl⟩ := h v (List.mem_cons_self ..)
    obtain ⟨ks, r, m⟩ := strs_of us fun u hu => h u (List.mem_cons_of_mem _ hu)
    refine ⟨k0 :: ks, .cons k0 tk0 r, fun k => ?_⟩
    rw [List.mem_cons, m k]
    constructor
    · rintro (e | ⟨v, hv, tk, e⟩)
      · exact ⟨_, List.mem_cons_self .., tk0, by rw [e]⟩
      · exact ⟨v, List.mem_cons_of_mem _ hv, tk, e⟩
    · rintro ⟨v, hv, tk, e⟩
      rcases List.mem_cons.mp hv with z | z
      · rw [z] at e; cases e; exact .inl rfl
      · exact .inr ⟨v, z, tk, e⟩
section
variable {P : Program} {w : World} {A : Around} {E : Value → Shared → Prop} {s : Shared} {S : Addr} {l : List Str}
/-- sorted(set) -/
theorem sorted_txts {Q : Value → Shared → Prop} (x : TxS P w s.heap S l) (hh : A.handled = none) (h64 : l.length < 64)
    (hQ : ∀ s' p (out : Array Value) (c : Nat) (ns : List Str), (∀ b o, s.heap.get? b = some o → s'.heap.get? b = some o) → s'.gens = s.gens → s'.os = s.os → s.heap.objs.size ≤ p →
      s'.heap.get? p = some (seqObj "list" out c) → StrsAre out.toList ns → ns.Perm l → sortedS ns = true → Q (.ref p) s') :
    wpAny (model P w) A (call (.builtin "sorted") [.ref S]) Q E s := by
  obtain ⟨⟨⟨es, ep, t⟩, ho, F, hr, hl⟩, nd⟩ := x
  have hsz : es.size = l.length := F.sz
  refine Calls.call_function_entry kind_sorted plain_sorted entry_sorted (args_sorted1 _) ?_
  unfold Builtin.«sorted»
  refine wpAny_bind (m := checkCount "sorted" 1 1 _) (wpAny_pure ?_)
  refine wpAny_bind (collect_set (A := A.in1) hh ⟨_, ho, rfl, rfl⟩ F.fit (show es.size < scanBound by unfold scanBound; omega) hr hl fun s1 vs k1 hz g1 o1 pm => ?_)
  have hvl : vs.length = l.length := by rw [pm.length_eq, List.length_map, Array.length_toList]; exact hsz
  have hst : ∀ v ∈ vs, ∃ k tk, v = Value.str k tk := fun v hv => by
    obtain ⟨e, he, q⟩ := List.mem_map.mp (pm.mem_iff.mp hv)
    obtain ⟨⟨k, h1, _⟩, _⟩ := F.el e he
    obtain ⟨tk, h2⟩ := Value.isStrOf_shape h1
    exact ⟨k, tk, by rw [← q]; exact h2⟩
  obtain ⟨ks, hks, mem⟩ := strs_of vs hst
  have pks : ks.Perm l := by
    refine perm_of_sub nd (fun z hz' => ?_) (by rw [← hks.length, hvl]; exact Nat.le_refl _)
    obtain ⟨e, he, q⟩ := (F.mem z).mp hz'
    obtain ⟨tk, h2⟩ := Value.isStrOf_shape q
    exact (mem z).mpr ⟨e.2, pm.mem_iff.mpr (List.mem_map.mpr ⟨e, he, rfl⟩), tk, h2⟩
  refine wpAny_bind (wpAny_newList ?_ (by rw [hvl, sizeLine_eq]; omega))
  have hoL : (s1.heap.push (seqObj "list" vs.toArray 0)).get? s1.heap.objs.size = some (seqObj "list" vs.toArray 0) := Heap.get?_push_size _ rfl
  refine wpAny_bind (wpAny_holding (wpAny_call_entry slot_list_sort ⟨_, hoL, rfl⟩ entry_list_sort
    (list_sort_treeK strKind_oneLt (s := { s1 with heap := s1.heap.push (seqObj "list" vs.toArray 0) }) hoL hks.keysOf (fun v₁ v₂ rest e => keyKind_strs (by rw [← e]; exact hks)) (by rw [hvl]; exact h64) fun st' hp hs => ⟨_, rfl, ?_⟩) (args_list_sort _)))
  obtain ⟨ns, a1, a2, a3⟩ := sorted_out_str hks hp hs
  obtain ⟨c, hc⟩ := sortedHeap_at (vs := vs) (out := (arrOf st').map (·.2)) hoL
  refine wpAny_pure ⟨_, rfl, hQ _ s1.heap.objs.size _ c ns (fun b u e => ?_) g1 o1 hz hc a1 (a2.trans pks) a3⟩
  have q := k1 b u e
  have hlt := Heap.lt_size q
  show (sortedHeap (s1.heap.push (seqObj "list" vs.toArray 0)) s1.heap.objs.size vs _).get? b = some u
  rw [sortedHeap_old (Nat.ne_of_lt hlt) (by rw [size_push']; exact Nat.lt_succ_of_lt hlt)]
  exact Heap.get?_push_of_some _ q
end
def SetTx (P : Program) (w : World) (a : Addr) (l : List Str) : HO := .ext fun h => TxS P w h a l
theorem setTx_new {P : Program} {w : World} {H : Hp} {h : Heap} {a : Addr} {l : List Str} (R : TxS P w h a l) : ObjOk P w H h a (SetTx P w a l) := by
  have ⟨⟨D, ho, _⟩, _⟩ := R
  exact ⟨R, ⟨_, ho⟩, fun h1 h2 p k => p.at k⟩
section
variable {X : Cx}
/-- set(xs), xs a list of texts -/
def rSetTx (K : PySem.W.Frag) (P : Program) (w : World) : List V → Hp → VK → Prop := fun vs H Q => ∃ (l : Addr) (xs : List Str), vs = [V.ref l] ∧ SqL K H l (xs.map V.str) ∧ xs.length < scanBound ∧
  ∀ a ys, H a = none → ys.Nodup → (∀ z, z ∈ ys ↔ z ∈ xs) → ys.length ≤ xs.length → Q (.ref a) (upd H a (SetTx P w a ys))
theorem cr_setTx (hc : X.calm = true) : CallR X (.type "set") (rSetTx X.K X.prog X.w) := by
  intro pins s σ H vs us Q I r h
  obtain ⟨l, xs, rfl, hl, hb, q⟩ := h
  rw [Vals.ref1 r]
  obtain ⟨its, rv, pl, hz⟩ := I.list hl
  refine call_set_txts (P := X.prog) (w := X.w) (I.ok.hd hc) pl.isList (by simpa using rv.strs) hb fun h' tk ys x m n k => ?_
  exact ⟨.ref s.heap.objs.size, upd H s.heap.objs.size (SetTx X.prog X.w s.heap.objs.size ys), I.laid (t' := tk) k (Nat.le_refl _) (setTx_new x), rfl, q _ ys (I.hok.fresh (Nat.le_refl _)) x.nd m n⟩
def rSortedTx (P : Program) (w : World) : List V → Hp → VK → Prop := fun vs H Q => ∃ (a : Addr) (l : List Str), vs = [V.ref a] ∧ H a = some (SetTx P w a l) ∧ l.length < 64 ∧
  ∀ (ns : List Str) (p : Addr), ns.Perm l → sortedS ns = true → H p = none → Q (.ref p) (upd H p (.lst (ns.map V.str)))
theorem cr_sortedTx (hc : X.calm = true) : CallR X (.builtin "sorted") (rSortedTx X.prog X.w) := by
  intro pins s σ H vs us Q I r h
  obtain ⟨a, l, rfl, ha, h64, q⟩ := h
  have R : TxS X.prog X.w s.heap a l := (I.hok a _ ha).1
  rw [Vals.ref1 r]
  refine sorted_txts R (I.ok.hd hc) h64 fun s' p out c ns k g o hp hg hi pm hs => ?_
  have hlen : (ns.map V.str).length ≤ sizeLine := by rw [List.length_map, pm.length_eq, sizeLine_eq]; omega
  have hn : H p = none := I.hok.fresh hp
  have J : Inv X pins σ (upd H p (.lst (ns.map V.str))) { s with heap := s'.heap, gens := s'.gens, drawn := s'.drawn, toks := s'.toks } :=
    I.call (ch := []) (Un.laid k hp hn) (I.hok.laid k hp ⟨hlen, out.toList, c, vals_of_strs hi, hg⟩) (by rw [g]; exact I.bare) (fun _ z => nomatch z)
  have e : s' = { s with heap := s'.heap, gens := s'.gens, drawn := s'.drawn, toks := s'.toks } := by
    cases s'
    cases s
    cases o
    rfl
  rw [e]
  exact ⟨.ref p, _, J, rfl, q ns p pm hs hn⟩
end
end Us
end
set_option maxRecDepth 100000
set_option maxHeartbeats 2000000
/-! plain tuples, dict(..), sorted(..), set(..) -/
namespace Dl
open PySem PySem.Spec PyProof.Rows L2 Us
section
variable {K : PySem.W.Frag}
def ptupD : D → (D → Prop) → Prop := fun x P => match x with
  | .lst xs => P (.ptup xs)
  | _ => False
theorem l_ptup : LCallP K (rTupF K) ptupD := fun a B H x u P Q s ex r k => by
  have hs := RP.seq s ex
  unfold ptupD at r
  split at r
  · obtain ⟨p, us, rfl, hp, em⟩ := hs.1 _ rfl
    exact ⟨p, us, rfl, SqL.of hp, fun l o hl h1 h2 => k _ _ _ _ (Stp.new s hl) (emb_ptup upd_same h1 h2 (em.mono (Same.new (bfresh s hl)))) r⟩
  · exact r.elim
theorem tupF_k {X : Cx} (h : X.K = K) : CallR X (.type "tuple") (rTupF K) := by subst h; exact call_tupF
def LCallPK (K : PySem.W.Frag) (r : List V → Hp → VK → Prop) (rd : D → (List Key × List D → Prop) → Prop) : Prop := ∀ (a : Addr) (B H : Hp) (x : D) (u : V) (P : List Key × List D → Prop) (Q : VK), Same B H → RP K a H B H x u → rd x P → (∀ d B' H' w, Stp No B H B' H' → RK K a H B' H' d w → P d → Q w H') → r [u] H Q
def dCallPK (rd : D → (List Key × List D → Prop) → Prop) (i : Nat) : Wp (List Key × List D) := fun s E P => dPk i s E fun d s1 => rd d fun z => P z s1
theorem RK.up {Ho1 Ho2 B1 B2 B' H' : Hp} {a : Addr} {W' : Addr → Prop} {x : List Key × List D} {v : V} (g : Stp W' B1 Ho1 B2 Ho2) (h : RK K a Ho2 B' H' x v) : RK K a Ho1 B' H' x v := by
  obtain ⟨p, us, e, h1, h2, h3, h4⟩ := h
  exact ⟨p, us, e, h1, h2, g.fresh h3, h4⟩
theorem snd_callPK {W : WX} {r : List V → Hp → VK → Prop} {rd : D → (List Key × List D → Prop) → Prop} {i : Nat} (l : LCallPK K r rd) : Snd K W (RK K) (tCB r (tCons (tVar i) tNil)) (dCallPK rd i) := fun a B0 H0 s σ B H E P Q R L ht k =>
  snd_pk a B0 H0 s σ B H E _ _ R L ht fun d s1 u B1 H1 f rp q => l a B1 H1 d u _ _ f.rel.gr.bh rp q fun z B2 H2 w g e2 pz => k z s1 w B2 H2 (f.trans (.pure f.rel g)) (RK.up f.stp e2) pz
/-! dict(d) -/
def rDictD : List V → Hp → VK → Prop := fun xs H Q => ∃ (a : Addr) (kvs : List (Key × V)), xs = [.ref a] ∧ Rd H a (.dK kvs) ∧ ∀ p, H p = none → Q (.ref p) (upd H p (.dK kvs))
theorem call_dictD' {X : Cx} : CallR X (.type "dict") rDictD := call_dictD
def cpyD : D → (List Key × List D → Prop) → Prop := fun x P => match x with
  | .dct ks ds => P (ks, ds)
  | _ => False
theorem RP.dctv {a : Addr} {Ho B H : Hp} {ks : List Key} {ds : List D} {v : V} (s : Same B H) (h : RP K a Ho B H (.dct ks ds) v) : ∃ p kvs, v = .ref p ∧ H p = some (.dK kvs) ∧ kvs.map (·.1) = ks ∧ EmbL K a B ds (kvs.map (·.2)) := by
  rcases h with h | ⟨_, _, _, e, _⟩ | ⟨_, _, p, kvs, e, ev, hp, h1, h2⟩
  · obtain ⟨p, kvs, e, hp, r⟩ := Emb.dct h
    exact ⟨p, kvs, e, s _ _ hp, r⟩
  · cases e
  · cases e
    exact ⟨p, kvs, ev, hp, h1, h2⟩
theorem l_cpy : LCallPK K rDictD cpyD := fun a B H x u P Q s ex r k => by
  unfold cpyD at r
  split at r
  · obtain ⟨p, kvs, rfl, hp, ek, em⟩ := RP.dctv s ex
    exact ⟨p, kvs, rfl, .inl hp, fun l hl => k _ B _ _ (Stp.cell s hl) ⟨l, kvs, rfl, upd_same, bfresh s hl, hl, ek, em⟩ r⟩
  · exact r.elim
/-! dict(t), t a plain tuple of pairs -/
def prsD : List D → Option (List (Key × D))
  | [] => some []
  | .tup [k, d] :: r => (keyD k).bind fun k => (prsD r).map ((k, d) :: ·)
  | _ :: _ => none
def mergeD (x : List Key × List D) (ps : List (Key × D)) : List Key × List D := ps.foldl (fun x p => putKD x.1 x.2 p.1 p.2) x
theorem prs_V {a : Addr} {B H : Hp} (s : Same B H) : ∀ {xs : List D} {us : List V} {ps : List (Key × D)}, EmbL K a B xs us → prsD xs = some ps → ∃ (as : List Addr) (kvs : List (Key × V)), us = as.map V.ref ∧ Paired (fun p kv => SqT K H p [kV kv.1, kv.2]) as kvs ∧ kvs.map (·.1) = ps.map (·.1) ∧ EmbL K a B (ps.map (·.2)) (kvs.map (·.2))
  | [], us, ps, h, e => by cases e; rw [h.of_nil]; exact ⟨[], [], rfl, .nil, rfl, .nil⟩
  | x :: r, us, ps, h, e => by
    obtain ⟨u, us, rfl, h1, h2⟩ := h.uncons
    unfold prsD at e
    split at e
    · rename_i hh; cases hh
    · rename_i k d r' heq
      cases heq
      obtain ⟨p, vs, rfl, hp, hv⟩ := Emb.tup h1
      obtain ⟨v1, w1, rfl, e1, hv⟩ := hv.uncons
      obtain ⟨v2, w2, rfl, e2, hv⟩ := hv.uncons
      cases hv.of_nil
      cases hk : keyD k with
      | none => rw [hk] at e; cases e
      | some ky =>
        rw [hk] at e
        cases hr : prsD r with
        | none => rw [hr] at e; cases e
        | some ps' =>
          rw [hr] at e
          cases e
          obtain ⟨as, kvs, e3, e4, e5, e6⟩ := prs_V s h2 hr
          refine ⟨p :: as, (ky, v2) :: kvs, by rw [e3]; rfl, .cons ?_ e4, by rw [List.map_cons, List.map_cons, e5], .cons e2 e6⟩
          rw [key_V hk e1] at hp
          exact SqT.of (s _ _ hp)
    · cases e
theorem merge_V {a : Addr} {B : Hp} : ∀ {ps : List (Key × D)} {kvs acc : List (Key × V)} {ks : List Key} {ds : List D}, kvs.map (·.1) = ps.map (·.1) → EmbL K a B (ps.map (·.2)) (kvs.map (·.2)) → acc.map (·.1) = ks → EmbL K a B ds (acc.map (·.2)) →
    (mergeK acc kvs).map (·.1) = (mergeD (ks, ds) ps).1 ∧ EmbL K a B (mergeD (ks, ds) ps).2 ((mergeK acc kvs).map (·.2))
  | [], kvs, acc, ks, ds, e1, e2, e3, e4 => by
    cases kvs with
    | nil => exact ⟨e3, e4⟩
    | cons x r => cases e1
  | (k, d) :: ps, kvs, acc, ks, ds, e1, e2, e3, e4 => by
    cases kvs with
    | nil => cases e1
    | cons x r =>
      obtain ⟨k', v⟩ := x
      rw [List.map_cons, List.map_cons] at e1
      injection e1 with e11 e12
      have e11' : k' = k := e11
      subst e11'
      obtain ⟨u, us, e, h1, h2⟩ := e2.uncons
      rw [List.map_cons] at e
      injection e with ea eb
      subst ea eb
      subst e3
      obtain ⟨q1, q2⟩ := put_V k' h1 e4
      exact merge_V (ps := ps) (kvs := r) (acc := putK acc k' v) e12 h2 q1 q2
def dicD : D → (List Key × List D → Prop) → Prop := fun x P => match x with
  | .ptup xs => (match prsD xs with
    | some ps => P (mergeD ([], []) ps)
    | none => False)
  | _ => False
theorem l_dicT : LCallPK K (rDictT K) dicD := fun a B H x u P Q s ex r k => by
  unfold dicD at r
  split at r
  · rename_i xs
    have em : Emb K a B (.ptup xs) u := by
      rcases ex with h | ⟨_, _, _, e, _⟩ | ⟨_, _, _, _, e, _⟩
      · exact h
      · cases e
      · cases e
    obtain ⟨p, us, o, rfl, hp, h1, h2, hv⟩ := Emb.ptup em
    split at r
    · rename_i ps hps
      obtain ⟨as, kvs, e3, e4, e5, e6⟩ := prs_V s hv hps
      refine ⟨p, as, kvs, rfl, ⟨o, by rw [← e3]; exact s _ _ hp, h1, h2⟩, e4, fun l hl => ?_⟩
      obtain ⟨q1, q2⟩ := merge_V (acc := []) (ks := []) (ds := []) e5 e6 rfl .nil
      exact k _ B _ _ (Stp.cell s hl) ⟨l, _, rfl, upd_same, bfresh s hl, hl, q1, q2⟩ r
    · exact r.elim
  · exact r.elim
theorem dictT_k {X : Cx} (h : X.K = K) (hc : X.calm = true) : CallR X (.type "dict") (rDictT K) := by subst h; exact call_dictT hc
/-! sorted(d), the keys of d being texts -/
def keyS : List Key → Option (List Str)
  | [] => some []
  | .inr z :: r => (keyS r).map (z :: ·)
  | .inl _ :: _ => none
theorem keyS_map : ∀ {ks : List Key} {zs : List Str}, keyS ks = some zs → ks = zs.map Sum.inr
  | [], zs, e => by cases e; rfl
  | .inr z :: r, zs, e => by
    unfold keyS at e
    cases q : keyS r with
    | none => rw [q] at e; cases e
    | some ys => rw [q] at e; cases e; rw [keyS_map q]; rfl
  | .inl _ :: _, zs, e => by cases e
theorem emb_strs {a : Addr} {B : Hp} : ∀ (zs : List Str), EmbL K a B (zs.map D.str) (zs.map V.str)
  | [] => .nil
  | z :: zs => .cons emb_str (emb_strs zs)
def rSortD : List V → Hp → VK → Prop := fun xs H Q => ∃ (a : Addr) (kvs : List (Key × V)) (ks : List Str), xs = [.ref a] ∧ Rd H a (.dK kvs) ∧ kvs.map (·.1) = ks.map Sum.inr ∧ ks.length < 64 ∧
    ∀ ys p, ys.Perm ks → sortedS ys = true → H p = none → Q (.ref p) (upd H p (.lst (ys.map V.str)))
theorem call_sortedD' {X : Cx} (hc : X.calm = true) : CallR X (.builtin "sorted") rSortD := call_sortedD hc
def sorK : D → (List D → Prop) → Prop := fun x P => match x with
  | .dct ks _ => (match keyS ks with
    | some zs => zs.length < 64 ∧ ∀ ys, ys.Perm zs → sortedS ys = true → P (ys.map D.str)
    | none => False)
  | _ => False
theorem l_sorK : LCallPN K rSortD sorK := fun a B H x u P Q s ex r k => by
  unfold sorK at r
  split at r
  · split at r
    · rename_i zs hz
      obtain ⟨p, kvs, rfl, hp, ek, em⟩ := RP.dctv s ex
      exact ⟨p, kvs, zs, rfl, .inl hp, by rw [ek]; exact keyS_map hz, r.1, fun ys l h1 h2 hl => k _ B _ _ (Stp.cell s hl) ⟨l, _, rfl, upd_same, bfresh s hl, hl, emb_strs ys⟩ (r.2 ys h1 h2)⟩
    · exact r.elim
  · exact r.elim
/-! sorted(set(xs)), xs a list of texts -/
def strsD : List D → Option (List Str)
  | [] => some []
  | .str z :: r => (strsD r).map (z :: ·)
  | _ :: _ => none
theorem strs_V {a : Addr} {B : Hp} : ∀ {ds : List D} {us : List V} {zs : List Str}, EmbL K a B ds us → strsD ds = some zs → us = zs.map V.str
  | [], us, zs, h, e => by cases e; exact h.of_nil
  | x :: r, us, zs, h, e => by
    obtain ⟨u, us, rfl, h1, h2⟩ := h.uncons
    unfold strsD at e
    split at e
    · rename_i hh; cases hh
    · rename_i z r' heq
      cases heq
      cases Emb.str h1
      cases q : strsD r with
      | none => rw [q] at e; cases e
      | some ys => rw [q] at e; cases e; rw [strs_V h2 q]; rfl
    · cases e
theorem strsD_map (zs : List Str) : strsD (zs.map D.str) = some zs := by
  induction zs with
  | nil => rfl
  | cons z zs ih => rw [List.map_cons]; unfold strsD; rw [ih]; rfl
end
section
variable {X : Cx} {K : PySem.W.Frag} {W : WX} {pos p p2 cpos p1 : Pos} {e tg : Expr} {te : TE} {t : DE} {i : Nat} {nm f : Str}
def dSSort (t : DE) : DA := fun s E P => t s E fun d s1 => match d with
  | .lst ds => (match strsD ds with
    | some zs => zs.length < 64 ∧ ∀ ys, ys.Nodup → (∀ z, z ∈ ys ↔ z ∈ zs) → sortedS ys = true → P (ys.map D.str) s1
    | none => False)
  | _ => False
theorem dn_ssort (hc : X.calm = true) (hm1 : X.mg "sorted" = none) (hm2 : X.mg "set" = none) (h : DPE X K W e te t) (hg1 : Gl X "sorted" := by rfl) (hg2 : Gl X "set" := by rfl)
    (s1 : starEach [.Call (.Name "set" p2) [e] [] cpos] X.env = (false, eval (.Call (.Name "set" p2) [e] [] cpos) X.env) :: starEach [] X.env := by rfl) (hpl : (backTo pos (starEach [] X.env)).any (·.1) = false := by rfl)
    (s2 : starEach [e] X.env = (false, eval e X.env) :: starEach [] X.env := by rfl) (hpl2 : (backTo cpos (starEach [] X.env)).any (·.1) = false := by rfl) :
    DPN X K W (.Call (.Name "sorted" p) [.Call (.Name "set" p2) [e] [] cpos] [] pos) (tCB (rSortedTx X.prog X.w) (tCons (tCB (rSetTx K X.prog X.w) (tCons te tNil)) tNil)) (dSSort t) :=
  ⟨h.k, by have hk := h.k; subst hk; exact pe_callB (cr_sortedTx hc) hg1 hm1 (by decide +kernel) (pa_cons (pe_callTy (cr_setTx hc) hg2 hm2 (by decide +kernel) (pa_cons h.pe pa_nil s2) (by decide) (by decide) s2 hpl2) pa_nil s1) (by decide) (by decide) s1 hpl, fun a B0 H0 s σ B H E P Q R L ht k =>
    h.sn a B0 H0 s σ B H E _ _ R L ht fun d s1 v B1 H1 f em q => by
      cases d with
      | lst ds =>
        dsimp only at q
        cases hz : strsD ds with
        | none => rw [hz] at q; exact q.elim
        | some zs =>
          rw [hz] at q
          obtain ⟨h64, q⟩ := q
          obtain ⟨l, us, rfl, hp, hv⟩ := Emb.lst em
          have eu := strs_V hv hz
          subst eu
          refine ⟨l, zs, rfl, SqL.of (f.rel.gr.bh _ _ hp), by unfold scanBound; omega, fun b ys hb nd mem len => ?_⟩
          have g1 := Stp.cell (W := No) (o := SetTx X.prog X.w b ys) f.rel.gr.bh hb
          have f1 := f.trans (.pure f.rel g1)
          refine ⟨b, ys, rfl, upd_same, by omega, fun ns r hperm hs hr => ?_⟩
          have g2 := Stp.cell (W := No) (o := .lst (ns.map V.str)) f1.rel.gr.bh hr
          exact k _ s1 _ B1 _ (f1.trans (.pure f1.rel g2)) ⟨r, _, rfl, upd_same, bfresh f1.rel.gr.bh hr, f1.stp.fresh hr, emb_strs ns⟩ (q ns (hperm.nodup_iff.mpr nd) (fun z => (hperm.mem_iff).trans (mem z)) hs)
      | _ => exact q.elim⟩
/-! rules -/
theorem dk_t1V {r : List V → Hp → VK → Prop} {rd : D → (List Key × List D → Prop) → Prop} {T : String} (hc : CallR X (.type T) r) (l : LCallPK K r rd) (hm : X.mg f = none) (ho : PE X (.Name nm p1) (tVar i)) (hK : X.K = K := by rfl) (hg : Gl X f := by rfl) (hv : bootBuiltins f = some (.type T) := by decide +kernel) (hn : f ≠ "__name__" := by decide) (hdb : (f == ("__debug__" : Str)) = false := by decide)
    (he : starEach [.Name nm p1] X.env = (false, eval (.Name nm p1) X.env) :: starEach [] X.env := by rfl) (hpl : (backTo pos (starEach [] X.env)).any (·.1) = false := by rfl) : DPK X K W (.Call (.Name f p) [.Name nm p1] [] pos) (tCB r (tCons (tVar i) tNil)) (dCallPK rd i) :=
  ⟨hK, pe_callTy hc hg hm hv (pa_cons ho pa_nil he) hn hdb he hpl, snd_callPK l⟩
theorem snd_cbK {r : List V → Hp → VK → Prop} {rd : D → (List Key × List D → Prop) → Prop} (l : LCallPK K r rd) (h : Snd K W (RE K) te t) : Snd K W (RK K) (tCB r (tCons te tNil)) (fun s E P => t s E fun d s1 => rd d fun z => P z s1) := fun a B0 H0 s σ B H E P Q R L ht k =>
  h a B0 H0 s σ B H E _ _ R L ht fun d s1 u B1 H1 f e1 q => l a B1 H1 d u _ _ f.rel.gr.bh (.inl e1) q fun z B2 H2 w g e2 pz => k z s1 w B2 H2 (f.trans (.pure f.rel g)) (RK.up f.stp e2) pz
theorem dk_t1 {r : List V → Hp → VK → Prop} {rd : D → (List Key × List D → Prop) → Prop} {T : String} (hc : CallR X (.type T) r) (l : LCallPK K r rd) (hm : X.mg f = none) (h : DPE X K W e te t) (hg : Gl X f := by rfl) (hv : bootBuiltins f = some (.type T) := by decide +kernel) (hn : f ≠ "__name__" := by decide) (hdb : (f == ("__debug__" : Str)) = false := by decide)
    (he : starEach [e] X.env = (false, eval e X.env) :: starEach [] X.env := by rfl) (hpl : (backTo pos (starEach [] X.env)).any (·.1) = false := by rfl) : DPK X K W (.Call (.Name f p) [e] [] pos) (tCB r (tCons te tNil)) (fun s E P => t s E fun d s1 => rd d fun z => P z s1) :=
  ⟨h.k, pe_callTy hc hg hm hv (pa_cons h.pe pa_nil he) hn hdb he hpl, snd_cbK l h.sn⟩
/-! walks of plain tuples -/
theorem jok_ptup {a : Addr} {B : Hp} {q : Addr} {us : List V} {xs : List D} {o : Obj} (h : B q = some (.frz o (.tup us))) (r : EmbL K a B xs us) : JOk K a (Itt K q) xs B := by
  have le := r.length
  have sq : ∀ {B2 H2 : Hp}, Same B B2 → Same B2 H2 → SqT K H2 q us := fun s1 s2 => .inl (.inr ⟨o, s2 _ _ (s1 _ _ h)⟩)
  refine ⟨fun i B2 H2 s1 s2 hi => ⟨us, us[i]'(by omega), sq s1 s2, by simp⟩, fun i B2 H2 x H3 s1 s2 hi y => ?_, fun i B2 H2 s1 s2 hi => ⟨us, sq s1 s2, by omega⟩⟩
  obtain ⟨rfl, y⟩ := y
  have hx := y us (sq s1 s2)
  obtain ⟨w, hw, ew⟩ := r.get (List.getElem?_eq_getElem hi)
  rw [hx] at hw
  cases hw
  exact ⟨_, List.getElem?_eq_getElem hi, B2, Stp.refl s2, ew.mono s1⟩
def dItP (t : DE) : DA := fun s E P => t s E fun d s1 => match d with
  | .ptup xs => P xs s1
  | _ => False
theorem di_ptup (h : DPE X K W e te t) : DPI X K W tg e (iTup K te) (dItP t) := ⟨h.k, by have hk := h.k; subst hk; exact pi_tup h.pe, fun a B0 H0 s σ B H E P Q R L ht k =>
  h.sn a B0 H0 s σ B H E _ _ R L ht fun d s1 v B1 H1 f em q => by
    cases d with
    | ptup xs =>
      obtain ⟨p, us, o, rfl, hp, h1, h2, r⟩ := Emb.ptup em
      exact ⟨p, rfl, ⟨us, .inl (.inr ⟨o, f.rel.gr.bh _ _ hp⟩)⟩, k xs s1 _ B1 H1 f (jok_ptup hp r) q⟩
    | _ => exact q.elim⟩
end
end Dl
set_option maxRecDepth 100000
set_option maxHeartbeats 2000000
/-! int(..), sum(..), max(..), sorted of a slot -/
namespace Dl
open PySem PySem.Spec PyProof.Rows L2 Us
section
variable {K : PySem.W.Frag}
def intD : D → (D → Prop) → Prop := fun x P => match x with
  | .int i => P (.int i)
  | .bl b => P (.int (if b then 1 else 0))
  | _ => False
theorem l_intU : LCallP K rIntU intD := fun a B H x u P Q s ex r k => by
  have sc : (∃ b, x = .bl b) ∨ (∃ i, x = .int i) → Emb K a B x u := fun h => by
    rcases ex with ex | ⟨_, _, _, e, _⟩ | ⟨_, _, _, _, e, _⟩
    · exact ex
    · rcases h with ⟨_, h⟩ | ⟨_, h⟩ <;> (rw [e] at h; cases h)
    · rcases h with ⟨_, h⟩ | ⟨_, h⟩ <;> (rw [e] at h; cases h)
  unfold intD at r
  split at r
  · cases Emb.int (sc (.inr ⟨_, rfl⟩)); exact i_intI (k _ B H _ (Stp.refl s) emb_int r)
  · cases Emb.bl (sc (.inl ⟨_, rfl⟩)); exact i_intB (k _ B H _ (Stp.refl s) emb_int r)
  · exact r.elim
def intsD : List D → Option (List Int)
  | [] => some []
  | .int z :: r => (intsD r).map (z :: ·)
  | _ :: _ => none
theorem ints_V {a : Addr} {B : Hp} : ∀ {ds : List D} {us : List V} {zs : List Int}, EmbL K a B ds us → intsD ds = some zs → us = zs.map V.int
  | [], us, zs, h, e => by cases e; exact h.of_nil
  | x :: r, us, zs, h, e => by
    obtain ⟨u, us, rfl, h1, h2⟩ := h.uncons
    unfold intsD at e
    split at e
    · rename_i hh; cases hh
    · rename_i z r' heq
      cases heq
      cases Emb.int h1
      cases q : intsD r with
      | none => rw [q] at e; cases e
      | some ys => rw [q] at e; cases e; rw [ints_V h2 q]; rfl
    · cases e
theorem intsD_map (zs : List Int) : intsD (zs.map D.int) = some zs := by
  induction zs with
  | nil => rfl
  | cons z zs ih => rw [List.map_cons]; unfold intsD; rw [ih]; rfl
def sumD : D → (D → Prop) → Prop := fun x P => match x with
  | .lst ds => (match intsD ds with
    | some zs => P (.int zs.sum)
    | none => False)
  | _ => False
theorem l_sum : LCallP K (rSum K) sumD := fun a B H x u P Q s ex r k => by
  have hs := RP.seq s ex
  unfold sumD at r
  split at r
  · split at r
    · rename_i zs hz
      obtain ⟨p, us, rfl, hp, em⟩ := hs.1 _ rfl
      exact ⟨p, zs, rfl, SqL.of (by rw [← ints_V em hz]; exact hp), k _ B H _ (Stp.refl s) emb_int r⟩
    · exact r.elim
  · exact r.elim
def maxD : D → (D → Prop) → Prop := fun x P => match x with
  | .lst ds => (match intsD ds with
    | some zs => 0 < zs.length ∧ ∀ m, m ∈ zs → (∀ y, y ∈ zs → y ≤ m) → P (.int m)
    | none => False)
  | _ => False
theorem l_max : LCallP K (rMax K) maxD := fun a B H x u P Q s ex r k => by
  have hs := RP.seq s ex
  unfold maxD at r
  split at r
  · split at r
    · rename_i zs hz
      obtain ⟨p, us, rfl, hp, em⟩ := hs.1 _ rfl
      exact ⟨p, zs, rfl, SqL.of (by rw [← ints_V em hz]; exact hp), r.1, fun m h1 h2 => k _ B H _ (Stp.refl s) emb_int (r.2 m h1 h2)⟩
    · exact r.elim
  · exact r.elim
theorem sum_k {X : Cx} (h : X.K = K) (hc : X.calm = true) : CallR X (.builtin "sum") (rSum K) := by subst h; exact cr_sum hc
theorem max_k {X : Cx} (h : X.K = K) (hc : X.calm = true) : CallR X (.builtin "max") (rMax K) := by subst h; exact cr_max hc
end
section
variable {X : Cx} {K : PySem.W.Frag} {W : WX} {pos p p1 : Pos} {i : Nat} {nm f : Str} {r : List V → Hp → VK → Prop} {rdn : D → (List D → Prop) → Prop} {id : String}
theorem dn_b1V (hc : CallR X (.builtin id) r) (l : LCallPN K r rdn) (hm : X.mg f = none) (ho : PE X (.Name nm p1) (tVar i)) (hK : X.K = K := by rfl) (hg : Gl X f := by rfl) (hv : bootBuiltins f = some (.builtin id) := by decide +kernel) (hn : f ≠ "__name__" := by decide) (hdb : (f == ("__debug__" : Str)) = false := by decide)
    (he : starEach [.Name nm p1] X.env = (false, eval (.Name nm p1) X.env) :: starEach [] X.env := by rfl) (hpl : (backTo pos (starEach [] X.env)).any (·.1) = false := by rfl) : DPN X K W (.Call (.Name f p) [.Name nm p1] [] pos) (tCB r (tCons (tVar i) tNil)) (dCallPN rdn i) :=
  ⟨hK, pe_callB hc hg hm hv (pa_cons ho pa_nil he) hn hdb he hpl, snd_callPN l⟩
end
/-! ### kinds and words, as data -/
inductive Kd where
  | lt (i : Int)
  | pr (l r : Kd)
deriving DecidableEq
def Kd.d : Kd → D
  | .lt i => .int i
  | .pr l r => .tup [l.d, r.d]
def Kd.good : Kd → Prop
  | .lt i => 0 ≤ i ∧ i ≤ 25
  | .pr l r => l.good ∧ r.good
def Kd.dep : Kd → Nat
  | .lt _ => 0
  | .pr l r => max l.dep r.dep + 1
/-- what a take bears here -/
def Kd.ok (k : Kd) : Prop := k.good ∧ k.dep ≤ 2
def Kd.size : Kd → Nat
  | .lt _ => 1
  | .pr l r => l.size + r.size + 1
def Kd.lefts : Kd → List Kd
  | .lt _ => []
  | .pr l r => l :: r.lefts
def Kd.fin : Kd → Int
  | .lt i => i
  | .pr _ r => r.fin
/-- a name of one to eight letters -/
def nameC (c : Nat) : Bool := ((Str.ofString "abcdefghijklmnopqrstuvwxyz").cps.toList.contains c)
def isNm (z : Str) : Bool := decide (1 ≤ z.length) && decide (z.length ≤ 8) && z.cps.toList.all nameC
inductive Wd where
  | use
  | nm (z : Str)
  | tk (z : Str) (k : Kd)
deriving DecidableEq
def Wd.d : Wd → D
  | .use => .str "@"
  | .nm z => .str z
  | .tk z k => .tup [.str z, k.d]
def Wd.good : Wd → Prop
  | .use => True
  | .nm z => isNm z = true
  | .tk z k => isNm z = true ∧ k.ok
inductive Tm where
  | nm (z : Str)
  | ap (f x : Tm)
  | la (z : Str) (k : Kd) (t : Tm)
def Tm.flat : Tm → List Wd
  | .nm z => [.nm z]
  | .ap f x => .use :: (f.flat ++ x.flat)
  | .la z k t => .tk z k :: t.flat
def Tm.size : Tm → Nat
  | .nm _ => 1
  | .ap f x => f.size + x.size + 1
  | .la _ _ t => t.size + 1
def Tm.good : Tm → Prop
  | .nm z => isNm z = true
  | .ap f x => f.good ∧ x.good
  | .la z k t => isNm z = true ∧ k.ok ∧ t.good
theorem Tm.flat_len : ∀ t : Tm, t.flat.length = t.size
  | .nm _ => rfl
  | .ap f x => by unfold flat size; rw [List.length_cons, List.length_append, f.flat_len, x.flat_len]
  | .la _ _ t => by unfold flat size; rw [List.length_cons, t.flat_len]
theorem Tm.size_pos : ∀ t : Tm, 0 < t.size
  | .nm _ => Nat.one_pos
  | .ap f x => Nat.succ_pos _
  | .la _ _ t => Nat.succ_pos _
def Tm.ds (t : Tm) : List D := t.flat.map Wd.d
theorem Tm.ds_len (t : Tm) : t.ds.length = t.size := by unfold ds; rw [List.length_map, t.flat_len]
/-- takes ahead of a part -/
def las : List (Str × Kd) → Tm → Tm
  | [], t => t
  | (z, k) :: r, t => .la z k (las r t)
theorem las_ds (t : Tm) : ∀ ps, (las ps t).ds = ps.map (fun p => D.tup [.str p.1, p.2.d]) ++ t.ds
  | [] => rfl
  | (z, k) :: r => by
    show D.tup [.str z, k.d] :: (las r t).ds = _
    rw [las_ds t r]; rfl
theorem las_good {t : Tm} (h : t.good) : ∀ {ps : List (Str × Kd)}, (∀ p ∈ ps, isNm p.1 = true ∧ p.2.ok) → (las ps t).good
  | [], _ => h
  | (z, k) :: r, g => ⟨(g _ (List.mem_cons_self ..)).1, (g _ (List.mem_cons_self ..)).2, las_good h fun p hp => g p (List.mem_cons_of_mem _ hp)⟩
theorem las_size (t : Tm) : ∀ ps, (las ps t).size = ps.length + t.size
  | [] => by simp [las]
  | (z, k) :: r => by
    show (las r t).size + 1 = _
    rw [las_size t r, List.length_cons]; omega
end Dl
set_option maxRecDepth 100000
set_option maxHeartbeats 2000000
namespace K10
open PySem PySem.Spec PyProof.Rows L2 Us Dl
/-! ### the hand -/
def HandAt (B H : Hp) (a : Addr) : Prop := B a = none ∧ ∃ (c : Addr) (ns : List Int) (i big seed n : Int), H a = some (.lst [.ref c, .int i, .int big, .int seed, .int n]) ∧ B c = some (.lst (ns.map V.int)) ∧ (∀ x ∈ ns, 0 ≤ x) ∧ 0 ≤ i ∧ 0 ≤ big ∧ 0 ≤ seed ∧ seed < 2147483648 ∧ 0 ≤ n
theorem HandAt.mono {B B' H H' : Hp} {a : Addr} {ms : List Addr} (g : Gr ms B H B' H') (ha : a ∉ ms) (h : HandAt B H a) : HandAt B' H' a := by
  obtain ⟨b, c, ns, i, big, seed, n, hH, hc, r⟩ := h
  exact ⟨g.bnone b hH, c, ns, i, big, seed, n, g.keep _ _ ha hH, g.bb _ _ hc, r⟩
theorem Gr.setA {B H H1 : Hp} {a : Addr} {u o : HO} (g : Gr [a] B H B H1) (hB : B a = none) (h : H1 a = some u) : Gr [a] B H B (upd H1 a o) := g.trans (Gr.set g.bh hB h (List.mem_singleton.mpr rfl))
def spDraw (K : PySem.W.Frag) : Sp := fun vs H Q _ => ∃ B a m, vs = [.ref a, .int m] ∧ 0 < m ∧ m < 1073741824 ∧ Same B H ∧ HandAt B H a ∧ ∀ H' d, Gr [a] B H B H' → HandAt B H' a → 0 ≤ d → d < m → Q (.int d) H'
section
variable {P : Program} {w : World} {K : PySem.W.Frag} {mg : Str → Option Value} {base : Heap}
theorem ok_draw (T : Txt K mg) : DefOk P w K mg base CX0 1 "_law_draw" p_law_draw (spDraw K) := by
  refine T.d_law_draw.ok sc_law_draw (fun _ _ _ _ _ _ us hl => match us, hl with | [_, _], _ => rfl) (fun vs H Q E h => ?_) (fun f cdv A outer s H vs Q E hr h => ?_)
  · obtain ⟨B, a, m, rfl, _⟩ := h
    rfl
  · obtain ⟨B, a, m, rfl, hm0, hm1, hS, hA, k⟩ := h
    refine ⟨_, PSs.nox (pss_cons (ps_if (PW.pt (pw_and (pt_cmpR op_eq (pe_ix ix_list (pv 0) pe_int (fun _ _ => rfl)) pe_int (nomark _)) (pw_and1 (pt_cmpR op_lt (pe_ix ix_list (pv 0) pe_int (fun _ _ => rfl)) (pe_callB call_lenU (by rfl) T.f_len (by decide +kernel) (pa_cons (pe_ix ix_list (pv 0) pe_int (fun _ _ => rfl)) pa_nil)) (nomark _)))))
      (pss_cons (ps_set (i := 2) sc_law_draw.nd rfl (Or.inl rfl) (pe_ix ix_list (pe_ix ix_list (pv 0) pe_int (fun _ _ => rfl)) (pe_ix ix_list (pv 0) pe_int (fun _ _ => rfl)) (fun _ _ => rfl)))
      (pss_cons (ps_asg (pe_op op_add (pe_ix ix_list (pv 0) pe_int (fun _ _ => rfl)) pe_int) (pg_sub (pv 0) pe_int set_list))
      (pss_cons (ps_asg (pe_op op_mod (pe_callTy call_intU (by rfl) T.f_int (by decide +kernel) (pa_cons (pe_op op_add (pe_op op_add (pe_op op_mul (pe_ix ix_list (pv 0) pe_int (fun _ _ => rfl)) pe_int) (pv 2)) pe_int) pa_nil)) pe_int) (pg_sub (pv 0) pe_int set_list))
      (pss_one (ps_if (pt_cmpR op_ge (pv 2) (pe_op op_pow pe_int pe_int) (nomark _))
        (pss_one (ps_asg (pv 2) (pg_sub (pv 0) pe_int set_list)))
        pss_nil)))))
      pss_nil)
    (pss_cons (ps_if (pt_cmpR op_gt (pe_ix ix_list (pv 0) pe_int (fun _ _ => rfl)) pe_int (nomark _))
      (pss_cons (ps_set (i := 3) sc_law_draw.nd rfl (Or.inl rfl) (pe_op op_mod (pe_callTy call_intU (by rfl) T.f_int (by decide +kernel) (pa_cons (pe_ix ix_list (pv 0) pe_int (fun _ _ => rfl)) pa_nil)) (pv 1)))
      (pss_cons (ps_asg (pe_op op_fdiv (pe_ix ix_list (pv 0) pe_int (fun _ _ => rfl)) (pv 1)) (pg_sub (pv 0) pe_int set_list))
      (pss_one (ps_ret (pv 3)))))
      pss_nil)
    (pss_cons (ps_asg (pe_op op_add (pe_ix ix_list (pv 0) pe_int (fun _ _ => rfl)) pe_int) (pg_sub (pv 0) pe_int set_list))
    (pss_cons (ps_set (i := 4) sc_law_draw.nd rfl (Or.inl rfl) (pe_op op_mod (pe_callTy call_intU (by rfl) T.f_int (by decide +kernel) (pa_cons (pe_op op_mul (pe_callTy call_intU (by rfl) T.f_int (by decide +kernel) (pa_cons (pe_op op_add (pe_ix ix_list (pv 0) pe_int (fun _ _ => rfl)) (pe_op op_mul pe_int (pe_ix ix_list (pv 0) pe_int (fun _ _ => rfl)))) pa_nil)) pe_int) pa_nil)) pe_int))
    (pss_cons (ps_set (i := 4) sc_law_draw.nd rfl (Or.inl rfl) (pe_op op_mod (pe_callTy call_intU (by rfl) T.f_int (by decide +kernel) (pa_cons (pe_op op_mul (pv 4) (pe_op op_add (pe_op op_fdiv (pv 4) pe_int) pe_int)) pa_nil)) pe_int))
    (pss_cons (ps_set (i := 4) sc_law_draw.nd rfl (Or.inl rfl) (pe_op op_mod (pe_callTy call_intU (by rfl) T.f_int (by decide +kernel) (pa_cons (pe_op op_mul (pv 4) (pe_op op_add (pe_op op_fdiv (pv 4) pe_int) pe_int)) pa_nil)) pe_int))
    (pss_one (ps_ret (pe_op op_mod (pe_callTy call_intU (by rfl) T.f_int (by decide +kernel) (pa_cons (pe_op op_fdiv (pv 4) pe_int) pa_nil)) (pv 1)))))))))), ?_⟩
    refine i_seq (i_join (fun σ' H' => ∃ v2, σ' = [some (.ref a), some (.int m), v2, none, none] ∧ Gr [a] B H B H' ∧ HandAt B H' a) ?_ (fun hr => ?_))
    · rintro σ' H' ⟨v2, rfl, g, hA'⟩
      obtain ⟨bA, c, ns, i, big, seed, n, hH, hc, hns, hi, hbig, hs0, hs1, hn⟩ := hA'
      walk_at "go"
      refine i_ixL (SqL.of hH) atI2 ?_
      walk_at "go"
      refine i_case (fun c1 => ?_) (fun c1 => ?_)
      · have hb : 0 < big := of_decide_eq_true c1
        walk_at "go"
        refine i_ixL (SqL.of hH) atI2 ?_
        walk_at "go"
        refine i_rI hm0 ?_
        walk_at "go"
        refine i_ixL (SqL.of hH) atI2 ?_
        walk_at "go"
        refine i_rI ⟨hm0, hm1⟩ ?_
        walk_at "go"
        refine i_setL hH (j := 2) rfl ?_
        walk_at "go"
        have g2 := Gr.setA (o := .lst [.ref c, .int i, .int (big / m), .int seed, .int n]) g bA hH
        exact k _ _ g2 ⟨bA, c, ns, i, big / m, seed, n, upd_same, hc, hns, hi, Int.ediv_nonneg hbig (Int.le_of_lt hm0), hs0, hs1, hn⟩ (Int.emod_nonneg _ (by omega)) (Int.emod_lt_of_pos _ hm0)
      · walk_at "go"
        refine i_ixL (SqL.of hH) atI4 ?_
        walk_at "go"
        refine i_setL hH (j := 4) rfl ?_
        have g2 := Gr.setA (o := .lst [.ref c, .int i, .int big, .int seed, .int (n + 1)]) g bA hH
        have h2 : upd H' a (.lst [.ref c, .int i, .int big, .int seed, .int (n + 1)]) a = some (.lst [.ref c, .int i, .int big, .int seed, .int (n + 1)]) := upd_same
        have hA2 : HandAt B (upd H' a (.lst [.ref c, .int i, .int big, .int seed, .int (n + 1)])) a := ⟨bA, c, ns, i, big, seed, n + 1, upd_same, hc, hns, hi, hbig, hs0, hs1, by omega⟩
        walk_at "go"
        refine i_ixL (SqL.of h2) atI3 ?_
        walk_at "go"
        refine i_ixL (SqL.of h2) atI4 ?_
        walk_at "go"
        refine i_rI (.inl ⟨by decide, by decide⟩) ?_
        walk_at "go"
        refine i_rI (.inr ⟨by decide, by decide⟩) ?_
        walk_at "go"
        refine i_rI (by decide) ?_
        generalize e1 : (seed + 7919 * (n + 1)) * 48271 % 2147483647 = x1
        have p1 : 0 ≤ x1 := by rw [← e1]; exact Int.emod_nonneg _ (by decide)
        have p2 : x1 < 2147483647 := by rw [← e1]; exact Int.emod_lt_of_pos _ (by decide)
        walk_at "go"
        refine i_rI ⟨by decide, by decide⟩ ?_
        walk_at "go"
        refine i_rI (.inl ⟨by omega, by omega⟩) ?_
        walk_at "go"
        refine i_rI (by decide) ?_
        generalize e2 : x1 * (x1 / 1009 + 69621) % 2147483647 = x2
        have p3 : 0 ≤ x2 := by rw [← e2]; exact Int.emod_nonneg _ (by decide)
        have p4 : x2 < 2147483647 := by rw [← e2]; exact Int.emod_lt_of_pos _ (by decide)
        walk_at "go"
        refine i_rI ⟨by decide, by decide⟩ ?_
        walk_at "go"
        refine i_rI (.inl ⟨by omega, by omega⟩) ?_
        walk_at "go"
        refine i_rI (by decide) ?_
        generalize e3 : x2 * (x2 / 2003 + 40692) % 2147483399 = x3
        walk_at "go"
        refine i_rI ⟨by decide, by decide⟩ ?_
        walk_at "go"
        refine i_rI hm0 ?_
        exact k _ _ g2 hA2 (Int.emod_nonneg _ (by omega)) (Int.emod_lt_of_pos _ hm0)
    · obtain ⟨bA, c, ns, i, big, seed, n, hH, hc, hns, hi, hbig, hs0, hs1, hn⟩ := hA
      have g0 : Gr [a] B H B H := Gr.refl hS
      walk_at "go"
      refine i_ixL (SqL.of hH) atI2 ?_
      walk_at "go"
      rw [dI]
      refine i_case (fun c1 => ?_) (fun c1 => ?_)
      · walk_at "go"
        refine i_ixL (SqL.of hH) atI1 ?_
        walk_at "go"
        refine i_ixL (SqL.of hH) atI0 ?_
        walk_at "go"
        refine i_lenL (SqL.of (hS _ _ hc)) ?_
        walk_at "go"
        refine i_case (fun c2 => ?_) (fun c2 => ?_)
        · have hlt : i < (ns.length : Int) := by have := of_decide_eq_true c2; rw [List.length_map] at this; exact this
          obtain ⟨j, rfl⟩ : ∃ j : Nat, i = (j : Int) := ⟨i.toNat, by omega⟩
          have hj : j < ns.length := by omega
          have hcell : 0 ≤ ns[j] := hns _ (List.getElem_mem hj)
          walk_at "go"
          refine i_ixL (SqL.of hH) atI0 ?_
          walk_at "go"
          refine i_ixL (SqL.of hH) atI1 ?_
          walk_at "go"
          refine i_ixL (SqL.of (hS _ _ hc)) (atI_nat (v := .int ns[j]) (by rw [List.getElem?_map, List.getElem?_eq_getElem hj]; rfl)) ?_
          generalize ns[j] = cell at hcell ⊢
          walk_at "go"
          refine i_ixL (SqL.of hH) atI1 ?_
          walk_at "go"
          refine i_setL hH (j := 1) rfl ?_
          have g2 := Gr.setA (o := .lst [.ref c, .int ((j : Int) + 1), .int big, .int seed, .int n]) g0 bA hH
          have h2 : upd H a (.lst [.ref c, .int ((j : Int) + 1), .int big, .int seed, .int n]) a = some (.lst [.ref c, .int ((j : Int) + 1), .int big, .int seed, .int n]) := upd_same
          walk_at "go"
          refine i_ixL (SqL.of h2) atI3 ?_
          walk_at "go"
          refine i_rI (.inr ⟨by decide, by decide⟩) ?_
          walk_at "go"
          refine i_rI (by decide) ?_
          generalize e1 : (seed * 69621 + cell + 11) % 2147483629 = x1
          have p1 : 0 ≤ x1 := by rw [← e1]; exact Int.emod_nonneg _ (by decide)
          have p2 : x1 < 2147483629 := by rw [← e1]; exact Int.emod_lt_of_pos _ (by decide)
          walk_at "go"
          refine i_setL h2 (j := 3) rfl ?_
          have g3 := Gr.setA (o := .lst [.ref c, .int ((j : Int) + 1), .int big, .int x1, .int n]) g2 bA h2
          have h3 : upd (upd H a (.lst [.ref c, .int ((j : Int) + 1), .int big, .int seed, .int n])) a (.lst [.ref c, .int ((j : Int) + 1), .int big, .int x1, .int n]) a = some (.lst [.ref c, .int ((j : Int) + 1), .int big, .int x1, .int n]) := upd_same
          walk_at "go"
          refine i_rI ⟨by decide, by decide, by decide⟩ ?_
          walk_at "go"
          refine i_case (fun c3 => ?_) (fun c3 => ?_)
          · walk_at "go"
            refine i_setL h3 (j := 2) rfl ?_
            refine hr _ _ ⟨_, rfl, Gr.setA (o := .lst [.ref c, .int ((j : Int) + 1), .int cell, .int x1, .int n]) g3 bA h3, bA, c, ns, _, cell, x1, n, upd_same, hc, hns, by omega, hcell, p1, by omega, hn⟩
          · exact hr _ _ ⟨_, rfl, g3, bA, c, ns, _, big, x1, n, upd_same, hc, hns, by omega, hbig, p1, by omega, hn⟩
        · exact hr _ _ ⟨_, rfl, g0, bA, c, ns, i, big, seed, n, hH, hc, hns, hi, hbig, hs0, hs1, hn⟩
      · exact hr _ _ ⟨_, rfl, g0, bA, c, ns, i, big, seed, n, hH, hc, hns, hi, hbig, hs0, hs1, hn⟩
end

def dDraw : DSp := fun ds P _ => ∃ m : Int, ds = [.hand, .int m] ∧ 0 < m ∧ m < 1073741824 ∧ ∀ d : Int, 0 ≤ d → d < m → P (.int d)
def dSome : DSp := fun ds P _ => ∃ xs, (ds = [.hand, .lst xs] ∨ ds = [.hand, .tup xs]) ∧ xs ≠ [] ∧ xs.length < 1073741824 ∧ ∀ d, d ∈ xs → P d
def dShuf : DSp := fun ds P _ => ∃ xs, (ds = [.hand, .lst xs] ∨ ds = [.hand, .tup xs]) ∧ xs.length < 1000 ∧ ∀ ys, ys.Perm xs → P (.lst ys)
section
variable {P : Program} {w : World} {K : PySem.W.Frag} {mg : Str → Option Value} {base : Heap}
theorem ok_drawD (D : DefOk P w K mg base CX0 1 "_law_draw" p_law_draw (spDraw K)) : DefOk P w K mg base CX0 1 "_law_draw" p_law_draw (toSp K dDraw) :=
  D.imp fun vs H Q E ⟨a, B, ds, Pp, Xx, hS, hH, em, ⟨m, e, m0, m1, k⟩, hq, _⟩ => by
    subst e
    obtain ⟨u, us, rfl, h1, em⟩ := em.uncons
    obtain ⟨u2, us2, rfl, h2, em⟩ := em.uncons
    cases em.of_nil
    cases Emb.hand h1
    cases Emb.int h2
    exact ⟨B, a, m, rfl, m0, m1, hS, hH, fun H' d g hA d0 d1 => hq _ (k d d0 d1) B H' _ (Stp.of_gr g) hA emb_int⟩
end

end K10
set_option maxRecDepth 100000
set_option maxHeartbeats 2000000
namespace K10
open PySem PySem.Spec PyProof.Rows L2 Us Dl
theorem seqIx {k n : Nat} (h : k < n) : seqIndex? (k : Int) n = some k := by
  first
    | (unfold seqIndex?; simp [h]; done)
    | (unfold seqIndex?; rw [if_neg (by omega), if_pos (by omega)]; rfl)
    | (unfold seqIndex?; simp; omega)
theorem erase_perm {α : Type} : ∀ (l : List α) (j : Nat) (h : j < l.length), (l[j] :: l.eraseIdx j).Perm l
  | [], j, h => by cases h
  | x :: l, 0, _ => List.Perm.refl _
  | x :: l, j + 1, h => by
    have hj : j < l.length := by simpa using h
    have ih := erase_perm l j hj
    show (l[j] :: x :: l.eraseIdx j).Perm (x :: l)
    exact (List.Perm.swap x l[j] _).trans (ih.cons x)
section
variable {P : Program} {w : World} {K : PySem.W.Frag} {mg : Str → Option Value} {base : Heap}
theorem at_of {xs : List D} {d : Int} (d0 : 0 ≤ d) (d1 : d < (xs.length : Int)) : ∃ y, atI xs d = some y ∧ y ∈ xs := by
  obtain ⟨n, rfl⟩ : ∃ n : Nat, d = (n : Int) := ⟨d.toNat, by omega⟩
  have hd : n < xs.length := by omega
  exact ⟨xs[n], atI_nat (List.getElem?_eq_getElem hd), List.getElem_mem hd⟩
theorem ok_someD (T : Txt K mg) (Dlaw_draw : DefOk P w K mg base CX0 1 "_law_draw" p_law_draw (toSp K dDraw)) : DefOk P w K mg base CX0 2 "_law_some" p_law_some (toSp K dSome) := by
  refine T.d_law_some.dl sc_law_some (fun _ _ _ _ _ _ us hl => match us, hl with | [_, _], _ => rfl) (fun ds Q E ⟨xs, e, _⟩ => by rcases e with e | e <;> (rw [e]; rfl)) (fun fa cdv A outer s H E hr => ⟨_, _, (dss_one (ds_ret (de_ixV (pv 1) (de_call0 Dlaw_draw (hr.mono (by first | decide | omega)) (da_cons (dv 0) (da_cons (de_b1V (len_k rfl) l_len T.f_len (pv 1)) da_nil)))))), fun ds Q E h => ?_⟩)
  obtain ⟨xs, e, hne, hl, k⟩ := h
  have pos : 0 < xs.length := List.length_pos_iff.mpr hne
  rcases e with rfl | rfl <;>
  · refine ⟨rfl, ?_⟩
    walk_at "d"
    refine ⟨_, rfl, by omega, by omega, fun d d0 d1 => ?_⟩
    obtain ⟨y, h1, h2⟩ := at_of d0 d1
    walk_at "d"
    rw [h1]
    exact k y h2
theorem ok_shufD (T : Txt K mg) (Dlaw_draw : DefOk P w K mg base CX0 1 "_law_draw" p_law_draw (toSp K dDraw)) : DefOk P w K mg base CX0 2 "_law_shuffled" p_law_shuffled (toSp K dShuf) := by
  refine T.d_law_shuffled.dl sc_law_shuffled (fun _ _ _ _ _ _ us hl => match us, hl with | [_, _], _ => rfl) (fun ds Q E ⟨xs, e, _⟩ => by rcases e with e | e <;> (rw [e]; rfl)) (fun fa cdv A outer s H E hr => ⟨_, _, (dss_cons (ds_setN (i := 2) sc_law_shuffled.nd rfl (Or.inl rfl) (dn_t1V (list_k rfl) l_list T.f_list (pv 1)))
    (dss_cons (ds_setN (i := 3) sc_law_shuffled.nd rfl (Or.inl rfl) (dn_lst da_nil))
    (dss_cons (ds_while PassesOwn.never (dt_cmp op_gt l_bool (de_b1V (len_k rfl) l_len T.f_len (pv 2)) de_int)
      (dss_one (ds_expr (de_mut PySem.F.plainAttrs_list PySem.F.slot_list_append PySem.F.type_list_append mt_append l_app (pv 3) (de_popAt (pv 2) (de_call0 Dlaw_draw (hr.mono (by first | decide | omega)) (da_cons (dv 0) (da_cons (de_b1V (len_k rfl) l_len T.f_len (pv 2)) da_nil))))))))
    (dss_one (ds_ret (dv 3)))))), fun ds Q E h => ?_⟩)
  obtain ⟨xs, e, hl, k⟩ := h
  have hz : (1000 : Nat) ≤ sizeLine := by decide
  rcases e with rfl | rfl <;>
  · walk_at "r"
    refine ⟨fun m s => ∃ (pool found : List D), s = [Sl.val .hand, _, Sl.own pool, Sl.own found] ∧ (found ++ pool).Perm xs ∧ m = pool.length, ⟨_, xs, [], rfl, List.Perm.refl _, rfl⟩, ?_⟩
    rintro m s ⟨pool, found, rfl, hp, rfl⟩
    have hlen : found.length + pool.length = xs.length := by rw [← List.length_append]; exact hp.length_eq
    walk_at "d"
    refine cnd_case (fun c => ?_) (fun c => ?_)
    · have hpos : (0 : Int) < pool.length := of_decide_eq_true c
      walk_at "r"
      refine ⟨_, rfl, hpos, by omega, fun d d0 d1 => ?_⟩
      obtain ⟨n, rfl⟩ : ∃ n : Nat, d = (n : Int) := ⟨d.toNat, by omega⟩
      have hn : n < pool.length := by omega
      have e1 : seqIndex? (n : Int) pool.length = some n := seqIx hn
      walk_at "d"
      refine ⟨by omega, ?_⟩
      rw [e1]
      walk_at "d"
      rw [List.getElem?_eq_getElem hn]
      walk_at "d"
      refine ⟨by omega, ?_⟩
      walk_at "d"
      refine ⟨_, ?_, pool.eraseIdx n, found ++ [pool[n]], rfl, ?_, rfl⟩
      · rw [List.length_eraseIdx_of_lt hn]; omega
      · refine List.Perm.trans ?_ hp
        rw [List.append_assoc]
        exact List.Perm.append_left _ (erase_perm pool n hn)
    · have h0 : ¬ ((0 : Int) < pool.length) := of_decide_eq_false c
      have : pool = [] := List.eq_nil_of_length_eq_zero (by omega)
      subst this
      walk_at "d"
      rw [List.append_nil] at hp
      exact k _ hp
end

end K10
set_option maxRecDepth 100000
set_option maxHeartbeats 2000000
/-! loops and listings by induction on what they walk -/
namespace Dl
open PySem PySem.Spec PyProof.Rows L2 Us
theorem lc_ind {α : Type} {g : DG} {tt : DT} {te : DE} {vs : List Nat} {P : List D → List Sl → Prop} (f : α → D) (J : List α → List D → List Sl → Prop) (nil : ∀ acc s, J [] acc s → P acc s)
    (step : ∀ x r acc s, J (x :: r) acc s → (∀ acc s, J r acc s → dLcL g tt te vs (r.map f) acc s P) → dLcL g tt te vs (f x :: r.map f) acc s P) : ∀ (xs : List α) (acc : List D) (s : List Sl), J xs acc s → dLcL g tt te vs (xs.map f) acc s P
  | [], acc, s, h => nil acc s h
  | x :: r, acc, s, h => step x r acc s h fun acc s j => lc_ind f J nil step r acc s j
theorem for_ind {α : Type} {g : DG} {tb : DS} {D : EndsD} (f : α → Dl.D) (J : List α → List Sl → Prop) (nil : ∀ s, J [] s → D.nx s)
    (step : ∀ x r s, J (x :: r) s → (∀ s, J r s → dForL g tb D (r.map f) s) → dForL g tb D (f x :: r.map f) s) : ∀ (xs : List α) (s : List Sl), J xs s → dForL g tb D (xs.map f) s
  | [], s, h => nil s h
  | x :: r, s, h => step x r s h fun s j => for_ind f J nil step r s j
/-! a, b = x, y -/
def dPar (i j : Nat) (t : DA) : DS := fun D s => t s D.ex fun ds s1 => match ds with
  | [x, y] => D.nx ((s1.set i (.val x)).set j (.val y))
  | _ => False
section
variable {X : Cx} {K : PySem.W.Frag} {W : WX} {pos : Pos}
theorem ds_par {i j : Nat} {x y : Str} {a b : Expr} {ta : TA} {t : DA} {px py pt : Pos} {kt k2 pt2} (hc : X.calm = true) (hN : X.N.Nodup) (hi : X.N[i]? = some x) (hj : X.N[j]? = some y) (hij : i ≠ j)
    (hx : X.env.scope.names.lookup x = some .local) (hy : X.env.scope.names.lookup y = some .local) (ha : DPA X K W [a, b] ta t)
    (hw : swappedStores [.Tuple [.Name x px, .Name y py] kt pt] (.Tuple [a, b] k2 pt2) X.env = pure (some [x, y]))
    (hs : swapsWithSole [.Tuple [.Name x px, .Name y py] kt pt] (.Tuple [a, b] k2 pt2) pos.line X.env = pure false := by rfl) :
    DPS X K W (.Assign [.Tuple [.Name x px, .Name y py] kt pt] (.Tuple [a, b] k2 pt2) pos) (tPar i j ta) (dPar i j t) :=
  ⟨ha.k, ps_par hc hN hi hj hij hx hy ha.pe hw hs, fun ad B0 H0 s σ B H D' D R L ok ht =>
    ha.sn ad B0 H0 s σ B H _ _ _ R L ht fun ds s1 vs B1 H1 f em q => by
      match ds, q with
      | [d1, d2], q =>
        obtain ⟨u, us, rfl, h1, em⟩ := em.uncons
        obtain ⟨u2, us2, rfl, h2, em⟩ := em.uncons
        cases em.of_nil
        have R2 := f.rel.store (i := i) (v := u) (sl := .val d1) ⟨u, rfl, h1⟩ (fun _ z => nomatch z)
        have R3 := R2.store (i := j) (v := u2) (sl := .val d2) ⟨u2, rfl, h2⟩ (fun _ z => nomatch z)
        exact ⟨u, u2, rfl, ok.nx _ _ B1 H1 R3 f.stp.bb q⟩⟩
end
/-! ### known names: a dict from names to kinds -/
def knK (kn : List (Str × Kd)) : List Key := kn.map fun p => .inr p.1
def knD (kn : List (Str × Kd)) : List D := kn.map fun p => p.2.d
def lkS : List (Str × Kd) → Str → Option Kd
  | [], _ => none
  | (x, k) :: r, z => if x = z then some k else lkS r z
def putS : List (Str × Kd) → Str → Kd → List (Str × Kd)
  | [], z, k => [(z, k)]
  | (x, k0) :: r, z, k => if x = z then (x, k) :: r.map (fun p => if p.1 = z then (p.1, k) else p) else (x, k0) :: putS r z k
theorem inr_ne {x z : Str} (h : x ≠ z) : (Sum.inr x : Key) ≠ .inr z := fun e => h (Sum.inr.inj e)
theorem lk_kn : ∀ (kn : List (Str × Kd)) (z : Str), lkD (knK kn) (knD kn) (.inr z) = (lkS kn z).map Kd.d
  | [], z => rfl
  | (x, k) :: r, z => by
    by_cases e : x = z
    · subst e
      show lkD (.inr x :: knK r) (k.d :: knD r) (.inr x) = _
      rw [lkD_pos]
      unfold lkS
      rw [if_pos rfl]; rfl
    · show lkD (.inr x :: knK r) (k.d :: knD r) (.inr z) = _
      rw [lkD_neg (inr_ne e), lk_kn r z]
      rw [show lkS ((x, k) :: r) z = lkS r z by rw [lkS, if_neg e]]
theorem lkS_mem : ∀ {kn : List (Str × Kd)} {z : Str} {k : Kd}, lkS kn z = some k → (z, k) ∈ kn
  | (x, k0) :: r, z, k, h => by
    unfold lkS at h
    by_cases e : x = z
    · rw [if_pos e] at h; cases h; rw [e]; exact List.mem_cons_self ..
    · rw [if_neg e] at h; exact List.mem_cons_of_mem _ (lkS_mem h)
theorem lkS_some : ∀ {kn : List (Str × Kd)} {z : Str}, z ∈ kn.map (·.1) → ∃ k, lkS kn z = some k
  | (x, k0) :: r, z, h => by
    unfold lkS
    by_cases e : x = z
    · exact ⟨k0, by rw [if_pos e]⟩
    · rw [if_neg e]
      rcases List.mem_cons.mp h with h | h
      · exact absurd h.symm e
      · exact lkS_some h
theorem keyS_kn : ∀ (kn : List (Str × Kd)), keyS (knK kn) = some (kn.map (·.1))
  | [] => rfl
  | (x, k) :: r => by
    show keyS (.inr x :: knK r) = _
    unfold keyS
    rw [keyS_kn r]; rfl
theorem put_kn (k : Kd) (z : Str) : ∀ (kn : List (Str × Kd)), (kn.map (·.1)).Nodup → putKD (knK kn) (knD kn) (.inr z) k.d = (knK (putS kn z k), knD (putS kn z k)) := by
  have same : ∀ kn : List (Str × Kd), z ∉ kn.map (·.1) → kpos (knK kn) (.inr z) = none ∧ putD (knK kn) (knD kn) (.inr z) k.d = knD kn ∧ kn.map (fun p => if p.1 = z then (p.1, k) else p) = kn := by
    intro kn
    induction kn with
    | nil => intro _; exact ⟨rfl, rfl, rfl⟩
    | cons p r ih =>
      obtain ⟨x, k0⟩ := p
      intro h
      have hx : x ≠ z := fun e => h (by rw [e]; exact List.mem_cons_self ..)
      obtain ⟨i1, i2, i3⟩ := ih fun q => h (List.mem_cons_of_mem _ q)
      refine ⟨?_, ?_, ?_⟩
      · show kpos (.inr x :: knK r) (.inr z) = none
        unfold kpos
        rw [if_neg (inr_ne hx), i1]; rfl
      · show putD (.inr x :: knK r) (k0.d :: knD r) (.inr z) k.d = _
        unfold putD
        rw [if_neg (inr_ne hx), i2]; rfl
      · rw [List.map_cons, i3]
        simp only
        rw [if_neg hx]
  have main : ∀ kn : List (Str × Kd), (kn.map (·.1)).Nodup → (∀ j, kpos (knK kn) (.inr z) = some j → putD (knK kn) (knD kn) (.inr z) k.d = knD (putS kn z k) ∧ knK kn = knK (putS kn z k)) ∧ (kpos (knK kn) (.inr z) = none → putS kn z k = kn ++ [(z, k)]) := by
    intro kn
    induction kn with
    | nil => intro _; exact ⟨fun j h => (by cases h), fun _ => rfl⟩
    | cons p r ih =>
      obtain ⟨x, k0⟩ := p
      intro h
      obtain ⟨h1, h2⟩ := List.nodup_cons.mp h
      obtain ⟨i1, i2⟩ := ih h2
      show (∀ j, kpos (.inr x :: knK r) (.inr z) = some j → putD (.inr x :: knK r) (k0.d :: knD r) (.inr z) k.d = _ ∧ _) ∧ (kpos (.inr x :: knK r) (.inr z) = none → _)
      by_cases e : x = z
      · subst e
        obtain ⟨s1, s2, s3⟩ := same r h1
        refine ⟨fun j _ => ?_, fun q => ?_⟩
        · unfold putD putS
          rw [if_pos rfl, if_pos rfl, s2, s3]
          exact ⟨rfl, rfl⟩
        · unfold kpos at q
          rw [if_pos rfl] at q; cases q
      · refine ⟨fun j q => ?_, fun q => ?_⟩
        · unfold kpos at q
          rw [if_neg (inr_ne e)] at q
          cases qq : kpos (knK r) (.inr z) with
          | none => rw [qq] at q; cases q
          | some j' =>
            obtain ⟨a1, a2⟩ := i1 j' qq
            unfold putD putS
            rw [if_neg (inr_ne e), if_neg e, a1]
            exact ⟨rfl, by show (.inr x :: knK r : List Key) = .inr x :: knK (putS r z k); rw [← a2]⟩
        · unfold kpos at q
          rw [if_neg (inr_ne e)] at q
          have qq : kpos (knK r) (.inr z) = none := by
            cases qq : kpos (knK r) (.inr z) with
            | none => rfl
            | some j => rw [qq] at q; cases q
          unfold putS
          rw [if_neg e, i2 qq]; rfl
  intro kn h
  obtain ⟨m1, m2⟩ := main kn h
  unfold putKD
  cases q : kpos (knK kn) (.inr z) with
  | some j =>
    obtain ⟨a1, a2⟩ := m1 j q
    show (knK kn, putD (knK kn) (knD kn) (.inr z) k.d) = _
    rw [a1, ← a2]
  | none =>
    rw [m2 q]
    show (knK kn ++ [.inr z], knD kn ++ [k.d]) = _
    unfold knK knD
    rw [List.map_append, List.map_append]; rfl
theorem putS_mem {z : Str} {k : Kd} : ∀ {kn : List (Str × Kd)} {p : Str × Kd}, p ∈ putS kn z k → p = (z, k) ∨ p ∈ kn
  | [], p, h => .inl (List.mem_singleton.mp h)
  | (x, k0) :: r, p, h => by
    unfold putS at h
    by_cases e : x = z
    · rw [if_pos e] at h
      rcases List.mem_cons.mp h with h | h
      · exact .inl (by rw [h, e])
      · obtain ⟨q, hq, eq⟩ := List.mem_map.mp h
        by_cases c : q.1 = z
        · rw [if_pos c] at eq; exact .inl (by rw [← eq, c])
        · rw [if_neg c] at eq; exact .inr (List.mem_cons_of_mem _ (by rw [← eq]; exact hq))
    · rw [if_neg e] at h
      rcases List.mem_cons.mp h with h | h
      · exact .inr (by rw [h]; exact List.mem_cons_self ..)
      · exact (putS_mem h).imp id (List.mem_cons_of_mem _)
theorem putS_keys {z : Str} {k : Kd} : ∀ (kn : List (Str × Kd)), (putS kn z k).map (·.1) = if z ∈ kn.map (·.1) then kn.map (·.1) else kn.map (·.1) ++ [z]
  | [] => rfl
  | (x, k0) :: r => by
    unfold putS
    by_cases e : x = z
    · subst e
      rw [if_pos rfl, List.map_cons (f := fun p : Str × Kd => p.1) (a := (x, k0)), if_pos (List.mem_cons_self ..), List.map_cons, List.map_map]
      congr 1
      refine List.map_congr_left fun p _ => ?_
      simp only [Function.comp]
      split <;> rfl
    · rw [if_neg e, List.map_cons, putS_keys r, List.map_cons]
      by_cases c : z ∈ r.map (·.1)
      · rw [if_pos c, if_pos (List.mem_cons_of_mem _ c)]
      · rw [if_neg c, if_neg (fun q => (List.mem_cons.mp q).elim (fun q => e q.symm) c)]; rfl
theorem putS_nodup {z : Str} {k : Kd} {kn : List (Str × Kd)} (h : (kn.map (·.1)).Nodup) : ((putS kn z k).map (·.1)).Nodup := by
  rw [putS_keys]
  by_cases c : z ∈ kn.map (·.1)
  · rw [if_pos c]; exact h
  · rw [if_neg c]
    exact List.nodup_append.mpr ⟨h, (by simp), fun a ha b hb e => c (by rw [← List.mem_singleton.mp hb, ← e]; exact ha)⟩
theorem putS_len {z : Str} {k : Kd} (kn : List (Str × Kd)) : (putS kn z k).length ≤ kn.length + 1 := by
  have := congrArg List.length (putS_keys (z := z) (k := k) kn)
  rw [List.length_map] at this
  rw [this]
  split
  · rw [List.length_map]; omega
  · rw [List.length_append, List.length_map]; exact Nat.le_refl _
end Dl
set_option maxRecDepth 100000
set_option maxHeartbeats 2000000
namespace K10
open PySem PySem.Spec PyProof.Rows L2 Us Dl
def dKind (n : Nat) : DSp := fun ds P _ => ∃ m : Nat, m < n ∧ ds = [.hand, .int m] ∧ ∀ k : Kd, k.good → k.dep ≤ m → P k.d
def dEnds : DSp := fun ds P _ => ∃ k : Kd, ds = [k.d] ∧ k.size < 100000 ∧ P (.tup [.lst (k.lefts.map Kd.d), .int k.fin])
theorem kd_size : ∀ (k : Kd), k.size < 2 ^ (k.dep + 1)
  | .lt _ => by show 1 < 2 ^ (0 + 1); decide
  | .pr l r => by
    have h1 := kd_size l
    have h2 := kd_size r
    show l.size + r.size + 1 < 2 ^ (max l.dep r.dep + 1 + 1)
    have m1 : 2 ^ (l.dep + 1) ≤ 2 ^ (max l.dep r.dep + 1) := Nat.pow_le_pow_right (by decide) (by omega)
    have m2 : 2 ^ (r.dep + 1) ≤ 2 ^ (max l.dep r.dep + 1) := Nat.pow_le_pow_right (by decide) (by omega)
    rw [Nat.pow_succ 2 (max l.dep r.dep + 1)]
    omega
theorem lefts_size : ∀ (k : Kd), k.lefts.length < k.size
  | .lt _ => Nat.one_pos
  | .pr l r => by
    have := lefts_size r
    show (l :: r.lefts).length < l.size + r.size + 1
    rw [List.length_cons]
    omega
section
variable {P : Program} {w : World} {K : PySem.W.Frag} {mg : Str → Option Value} {base : Heap}
theorem kind_no (T : Txt K mg) : DefOk P w K mg base CX0 1 "_law_kind" p_law_kind (toSp K (dKind 0)) :=
  T.d_law_kind.ok sc_law_kind (fun _ _ _ _ _ _ us hl => match us, hl with | [_, _], _ => rfl) (fun vs H Q E ⟨a, B, ds, Pp, Xx, _, _, _, ⟨m, hm, _⟩, _⟩ => absurd hm (Nat.not_lt_zero _)) (fun fa cdv A outer s H vs Q E hr ⟨a, B, ds, Pp, Xx, _, _, _, ⟨m, hm, _⟩, _⟩ => absurd hm (Nat.not_lt_zero _))
theorem kind_step {n : Nat} (T : Txt K mg) (Dlaw_draw : DefOk P w K mg base CX0 1 "_law_draw" p_law_draw (toSp K dDraw)) (Dlaw_kind : DefOk P w K mg base CX0 (n + 1) "_law_kind" p_law_kind (toSp K (dKind n))) : DefOk P w K mg base CX0 (n + 2) "_law_kind" p_law_kind (toSp K (dKind (n + 1))) := by
  refine T.d_law_kind.dl sc_law_kind (fun _ _ _ _ _ _ us hl => match us, hl with | [_, _], _ => rfl) (fun ds Q E ⟨m, _, e, _⟩ => by rw [e]; rfl) (fun fa cdv A outer s H E hr => ⟨_, _, (dss_cons (ds_if (DPW.pt (dw_or (dt_cmp op_eq l_eqS (dv 1) de_int) (dw_or1 (dt_cmp op_eq l_eqS (de_call0 Dlaw_draw (hr.mono (by first | decide | omega)) (da_cons (dv 0) (da_cons de_int da_nil))) de_int))))
      (dss_one (ds_ret (de_call0 Dlaw_draw (hr.mono (by first | decide | omega)) (da_cons (dv 0) (da_cons (de_op op_add l_int de_int (de_t1 call_intU l_intU T.f_int (de_cmp op_eq l_eqS (de_call0 Dlaw_draw (hr.mono (by first | decide | omega)) (da_cons (dv 0) (da_cons de_int da_nil))) de_int))) da_nil)))))
      dss_nil)
    (dss_one (ds_ret (de_tup (da_cons (de_call0 Dlaw_kind (hr.mono (by first | decide | omega)) (da_cons (dv 0) (da_cons (de_op op_sub l_int (dv 1) de_int) da_nil))) (da_cons (de_call0 Dlaw_kind (hr.mono (by first | decide | omega)) (da_cons (dv 0) (da_cons (de_op op_sub l_int (dv 1) de_int) da_nil))) da_nil)))))), fun ds Q E h => ?_⟩)
  obtain ⟨m, hm, rfl, k⟩ := h
  have leaf : ∀ i : Int, 0 ≤ i → i < 3 → Q (.int i) := fun i h0 h1 => k (.lt i) ⟨h0, by omega⟩ (Nat.zero_le _)
  have fin : ∀ (D0 : EndsD) (s : List Sl), D0.rt = Q → s = [Sl.val .hand, Sl.val (.int m)] → (dRet (dCall0 dDraw (dCons (dVar 0) (dCons (dOp (i2 fun i j => D.int (i + j)) (dC (D.int 2)) (dCB (c1 Dl.intD) (dCons (dOp eqS (dCall0 dDraw (dCons (dVar 0) (dCons (dC (D.int 8)) dNil))) (dC (D.int 0))) dNil))) dNil))) : DS) D0 s := by
    rintro D0 s e0 rfl
    have leaf : ∀ i : Int, 0 ≤ i → i < 3 → D0.rt (.int i) := by rw [e0]; exact leaf
    walk_at "d"
    refine ⟨8, rfl, by decide, by decide, fun d d0 d1 => ?_⟩
    walk_at "d"
    cases decide (d = 0) with
    | true => exact ⟨3, rfl, by decide, by decide, leaf⟩
    | false => exact ⟨2, rfl, by decide, by decide, fun i i0 i1 => leaf i i0 (by omega)⟩
  walk_at "d"
  cases hc : decide ((m : Int) = 0) with
  | true => exact fin _ _ rfl rfl
  | false =>
    have hm0 : m ≠ 0 := fun z => by rw [z] at hc; cases hc
    walk_at "d"
    refine ⟨3, rfl, by decide, by decide, fun d d0 d1 => ?_⟩
    walk_at "d"
    refine cnd_case (fun c => ?_) (fun c => ?_)
    · exact fin _ _ rfl rfl
    · walk_at "d"
      have e1 : (m : Int) - 1 = ((m - 1 : Nat) : Int) := by omega
      refine ⟨m - 1, by omega, by show [D.hand, D.int ((m : Int) - 1)] = _; rw [e1], fun k1 g1 p1 => ?_⟩
      walk_at "d"
      refine ⟨m - 1, by omega, by show [D.hand, D.int ((m : Int) - 1)] = _; rw [e1], fun k2 g2 p2 => ?_⟩
      walk_at "d"
      refine ⟨show 2 ≤ sizeLine by decide, ?_⟩
      exact k (.pr k1 k2) ⟨g1, g2⟩ (by show max k1.dep k2.dep + 1 ≤ m; omega)
theorem ok_kind (T : Txt K mg) (Dlaw_draw : DefOk P w K mg base CX0 1 "_law_draw" p_law_draw (toSp K dDraw)) : ∀ n, DefOk P w K mg base CX0 (n + 1) "_law_kind" p_law_kind (toSp K (dKind n))
  | 0 => kind_no T
  | n + 1 => kind_step T Dlaw_draw (ok_kind T Dlaw_draw n)
theorem ok_ends (T : Txt K mg) : DefOk P w K mg base CX0 1 "_law_ends" p_law_ends (toSp K dEnds) := by
  refine T.d_law_ends.dl sc_law_ends (fun _ _ _ _ _ _ us hl => match us, hl with | [_], _ => rfl) (fun ds Q E ⟨k, e, _⟩ => by rw [e]; rfl) (fun fa cdv A outer s H E hr => ⟨_, _, (dss_cons (ds_setN (i := 1) sc_law_ends.nd rfl (Or.inl rfl) (dn_lst da_nil))
    (dss_cons (ds_while PassesOwn.never (dt_val (de_isi (cs := []) (n := .tuple) (fun _ h => nomatch h) T.f_isinstance T.f_tuple (by decide +kernel) (dv 0)))
      (dss_cons (ds_expr (de_mut PySem.F.plainAttrs_list PySem.F.slot_list_append PySem.F.type_list_append mt_append l_app (pv 1) (de_ixV (pv 0) de_int)))
      (dss_one (ds_set (i := 0) sc_law_ends.nd rfl (Or.inl rfl) (de_ixV (pv 0) de_int)))))
    (dss_one (ds_ret (de_tup (da_cons (dv 1) (da_cons (dv 0) da_nil))))))), fun ds Q E h => ?_⟩)
  obtain ⟨k, rfl, hz, q⟩ := h
  have hl := lefts_size k
  have z0 : (100000 : Nat) ≤ sizeLine := by decide
  walk_at "r"
  refine ⟨fun m s => ∃ (a : List Kd) (k' : Kd), s = [Sl.val k'.d, Sl.own (a.map Kd.d)] ∧ a ++ k'.lefts = k.lefts ∧ k'.fin = k.fin ∧ m = k'.size, ⟨_, [], k, rfl, rfl, rfl, rfl⟩, ?_⟩
  rintro m s ⟨a, k', rfl, h1, h2, rfl⟩
  have hla := congrArg List.length h1
  rw [List.length_append] at hla
  cases k' with
  | lt i =>
    refine ⟨True.intro, ?_⟩
    walk_at "d"
    refine ⟨show 2 ≤ sizeLine by decide, ?_⟩
    rw [show a = k.lefts by rw [← h1]; exact (List.append_nil _).symm, show i = k.fin from h2]
    exact q
  | pr l r =>
    have hb : (a.map Kd.d).length < sizeLine := by rw [List.length_map]; omega
    walk_at "r"
    refine ⟨r.size, by show r.size < l.size + r.size + 1; omega, a ++ [l], r, ?_, by rw [List.append_assoc]; exact h1, h2, rfl⟩
    rw [List.map_append]; rfl
end

end K10
set_option maxRecDepth 100000
set_option maxHeartbeats 2000000
namespace K10
open PySem PySem.Spec PyProof.Rows L2 Us Dl
def prD (p : Str × Kd) : D := .tup [.str p.1, p.2.d]
def nine : List Str := ["f", "g", "h", "m", "n", "one", "two", "three", "abcdefgh"]
def dKnown : DSp := fun ds P _ => ∃ m : Nat, ds = [.hand, .int m] ∧ ∀ ps : List (Str × Kd), ps.length ≤ 9 → (∀ p ∈ ps, isNm p.1 = true ∧ p.2.good ∧ p.2.dep ≤ 2) → (ps.map (·.1)).Nodup → P (.ptup (ps.map prD))
theorem nine_ok : ∀ z ∈ nine, isNm z = true := by decide +kernel
theorem nine_nd : nine.Nodup := by decide +kernel
theorem perm_strs {ys : List D} : ∀ {ns : List Str}, ys.Perm (ns.map D.str) → ∃ zs : List Str, ys = zs.map D.str ∧ zs.Perm ns := by
  intro ns h
  have inj : ∀ ys : List D, (∀ y ∈ ys, ∃ z, y = D.str z) → ∃ zs : List Str, ys = zs.map D.str := by
    intro ys
    induction ys with
    | nil => intro _; exact ⟨[], rfl⟩
    | cons y r ih =>
      intro hy
      obtain ⟨z, rfl⟩ := hy y (List.mem_cons_self ..)
      obtain ⟨zs, rfl⟩ := ih fun q hq => hy q (List.mem_cons_of_mem _ hq)
      exact ⟨z :: zs, rfl⟩
  obtain ⟨zs, rfl⟩ := inj ys fun y hy => by
    obtain ⟨z, _, e⟩ := List.mem_map.mp (h.mem_iff.mp hy)
    exact ⟨z, e.symm⟩
  refine ⟨zs, rfl, ?_⟩
  have h2 := h.map fun d : D => match d with
    | .str z => z
    | _ => ""
  rw [List.map_map, List.map_map] at h2
  simpa [Function.comp_def] using h2
theorem cut_map {α : Type} (f : α → D) (zs : List α) (lo hi : Option Int) : ∃ ws : List α, Dl.cutD (zs.map f) lo hi = ws.map f ∧ ws.Sublist zs := by
  refine ⟨(zs.drop (HT.sIx (zs.map f).length 0 lo)).take (HT.sIx (zs.map f).length (zs.map f).length hi - HT.sIx (zs.map f).length 0 lo), ?_, (List.take_sublist _ _).trans (List.drop_sublist _ _)⟩
  unfold Dl.cutD
  rw [List.map_take, List.map_drop]
section
variable {P : Program} {w : World} {K : PySem.W.Frag} {mg : Str → Option Value} {base : Heap}
theorem ok_known (T : Txt K mg) (Dlaw_shuffled : DefOk P w K mg base CX0 2 "_law_shuffled" p_law_shuffled (toSp K dShuf)) (Dlaw_kind : DefOk P w K mg base CX0 4 "_law_kind" p_law_kind (toSp K (dKind 3))) :
    DefOk P w K mg base CX0 5 "_law_known" p_law_known (toSp K dKnown) := by
  refine T.d_law_known.dl sc_law_known (fun _ _ _ _ _ _ us hl => match us, hl with | [_, _], _ => rfl) (fun ds Q E ⟨m, e, _⟩ => by rw [e]; rfl) (fun fa cdv A outer s H E hr => ⟨_, _, (dss_cons (ds_setN (i := 2) sc_law_known.nd rfl (Or.inl rfl) (dn_slL (de_call0 Dlaw_shuffled (hr.mono (by first | decide | omega)) (da_cons (dv 0) (da_cons (de_n (dn_lst (da_cons de_str (da_cons de_str (da_cons de_str (da_cons de_str (da_cons de_str (da_cons de_str (da_cons de_str (da_cons de_str (da_cons de_str da_nil))))))))))) da_nil))) do_none (do_some (dv 1))))
    (dss_one (ds_ret (de_t1 (tupF_k rfl) l_ptup T.f_tuple (de_n (dn_lcm (own := [("_law_name", 3)]) rfl sc_law_known.nd (di_list (dv 2)) (blkOk_by (own := [("_law_name", 3)]) (N := n_law_known) (sc := defScope s_law_known) (by decide +kernel)) (fun _ _ _ _ _ => (dg_name (i := 3) (by decide) sc_law_known.nd rfl (Or.inl rfl))) (fun _ _ _ _ _ => dts_nil) (fun _ _ _ _ _ => (de_tup (da_cons (dv 3) (da_cons (de_call0 Dlaw_kind (hr.mono (by first | decide | omega)) (da_cons (dv 0) (da_cons de_int da_nil))) da_nil)))))))))), fun ds Q E h => ?_⟩)
  obtain ⟨m, rfl, k⟩ := h
  have z0 : (1000 : Nat) ≤ sizeLine := by decide
  walk_at "r"
  walk_at "d"
  refine ⟨nine.map D.str, .inl rfl, by decide, fun ys hp => ?_⟩
  obtain ⟨zs, rfl, hz⟩ : ∃ zs : List Str, ys = zs.map D.str ∧ zs.Perm nine := perm_strs hp
  walk_at "d"
  obtain ⟨ws, ew, hw⟩ := cut_map D.str zs none (some (m : Int))
  rw [ew]
  have g9 : ∀ z ∈ ws, isNm z = true := fun z h => nine_ok z (hz.mem_iff.mp (hw.subset h))
  have nd : ws.Nodup := (hz.nodup_iff.mpr nine_nd).sublist hw
  have l9 : ws.length ≤ 9 := Nat.le_trans hw.length_le (Nat.le_of_eq hz.length_eq)
  refine lc_ind D.str (fun rest acc s => ∃ ps : List (Str × Kd), acc = ps.map prD ∧ s = [Sl.val .hand, Sl.val (.int m), Sl.val (.lst (ws.map D.str)), Sl.no] ∧ ps.map (·.1) ++ rest = ws ∧ ∀ p ∈ ps, isNm p.1 = true ∧ p.2.good ∧ p.2.dep ≤ 2) ?_ ?_ ws [] _ ⟨[], rfl, rfl, rfl, fun p h => nomatch h⟩
  · rintro acc s ⟨ps, rfl, rfl, e, g⟩
    rw [List.append_nil] at e
    exact k ps (by rw [← List.length_map (f := Prod.fst), e]; exact l9) g (by rw [e]; exact nd)
  · rintro x r acc s ⟨ps, rfl, rfl, e, g⟩ ih
    have hlen : ps.length < 9 := by
      have := congrArg List.length e
      rw [List.length_append, List.length_map, List.length_cons] at this
      omega
    walk_at "r"
    walk_at "d"
    refine ⟨2, by decide, rfl, fun kd kg kp => ?_⟩
    walk_at "d"
    refine ⟨show 2 ≤ sizeLine by decide, ?_⟩
    walk_at "d"
    refine ⟨by rw [List.length_map]; omega, ?_⟩
    refine ih _ _ ⟨ps ++ [(x, kd)], by rw [List.map_append]; rfl, rfl, by rw [List.map_append, List.append_assoc]; exact e, fun p hp => ?_⟩
    rcases List.mem_append.mp hp with h | h
    · exact g p h
    · rw [List.mem_singleton.mp h]
      exact ⟨g9 x (by rw [← e]; exact List.mem_append_right _ (List.mem_cons_self ..)), kg, kp⟩
end

end K10
set_option maxRecDepth 100000
set_option maxHeartbeats 2000000
namespace K10
open PySem PySem.Spec PyProof.Rows L2 Us Dl
def knOk (kn : List (Str × Kd)) : Prop := (∀ p ∈ kn, isNm p.1 = true ∧ p.2.good ∧ p.2.dep ≤ 2) ∧ (kn.map (·.1)).Nodup
def dHeads : DSp := fun ds P _ => ∃ kn e, ∃ m : Int, ds = [.dct (knK kn) (knD kn), .int e, .int m] ∧ knOk kn ∧ kn.length < 64 ∧ ∀ zs : List Str, zs.length < 64 → (∀ z ∈ zs, ∃ k, lkS kn z = some k ∧ k.fin = e ∧ (m ≤ 0 → k.lefts = [])) → P (.lst (zs.map D.str))
theorem dep_small {k : Kd} (h : k.dep ≤ 2) : k.size < 100000 := by
  have h1 := kd_size k
  have h2 : 2 ^ (k.dep + 1) ≤ 2 ^ 3 := Nat.pow_le_pow_right (by decide) (by omega)
  omega
theorem isi_kd (k : Kd) : isiB k.d .tuple = !k.lefts.isEmpty := by cases k <;> rfl
theorem isok_kd (k : Kd) : isOk [] k.d := by cases k <;> exact True.intro
section
variable {P : Program} {w : World} {K : PySem.W.Frag} {mg : Str → Option Value} {base : Heap}
theorem ok_heads (T : Txt K mg) (Dlaw_ends : DefOk P w K mg base CX0 1 "_law_ends" p_law_ends (toSp K dEnds)) : DefOk P w K mg base CX0 2 "_law_heads" p_law_heads (toSp K dHeads) := by
  refine T.d_law_heads.dl sc_law_heads (fun _ _ _ _ _ _ us hl => match us, hl with | [_, _, _], _ => rfl) (fun ds Q E ⟨kn, e, m, h, _⟩ => by rw [h]; rfl) (fun fa cdv A outer s H E hr => ⟨_, _, (dss_cons (ds_setN (i := 3) sc_law_heads.nd rfl (Or.inl rfl) (dn_lst da_nil))
    (dss_cons (ds_for (vs := [4]) PassesOwn.never rfl (di_list (de_n (dn_b1V (call_sortedD' rfl) l_sorK T.f_sorted (pv 0)))) (dg_name (i := 4) (by decide) sc_law_heads.nd rfl (Or.inl rfl))
      (dss_one (ds_if (DPW.pt (dw_and (dt_cmp op_eq l_eqS (de_ix (de_call0 Dlaw_ends (hr.mono (by first | decide | omega)) (da_cons (de_dgetV (hu_of hr) (pv 0) (dv 4)) da_nil)) de_int) (dv 1)) (dw_and1 (DPW.pt (dw_or (dt_cmp op_gt l_bool (dv 2) de_int) (dw_or1 (dt_not (dt_val (de_isi (cs := []) (n := .tuple) (fun _ h => nomatch h) T.f_isinstance T.f_tuple (by decide +kernel) (de_dgetV (hu_of hr) (pv 0) (dv 4)))))))))))
        (dss_one (ds_expr (de_mut PySem.F.plainAttrs_list PySem.F.slot_list_append PySem.F.type_list_append mt_append l_app (pv 3) (dv 4))))
        dss_nil)))
    (dss_one (ds_ret (dv 3))))), fun ds Q E h => ?_⟩)
  obtain ⟨kn, e, m, rfl, ok, h64, k⟩ := h
  have z0 : (1000 : Nat) ≤ sizeLine := by decide
  walk_at "r"
  walk_at "d"
  rw [keyS_kn]
  walk_at "d"
  refine ⟨by rw [List.length_map]; exact h64, fun ys hp _ => ?_⟩
  walk_at "d"
  have hy : ∀ y ∈ ys, ∃ kd, lkS kn y = some kd := fun y h => lkS_some (hp.mem_iff.mp h)
  have hl : ys.length < 64 := by rw [hp.length_eq, List.length_map]; exact h64
  refine for_ind D.str (fun rest s => ∃ (zs : List Str) (sl : Sl), sl.isOwn = false ∧ s = [Sl.val (.dct (knK kn) (knD kn)), Sl.val (.int e), Sl.val (.int m), Sl.own (zs.map D.str), sl] ∧ (∀ y ∈ rest, ∃ kd, lkS kn y = some kd) ∧ zs.length + rest.length < 64 ∧ ∀ z ∈ zs, ∃ k, lkS kn z = some k ∧ k.fin = e ∧ (m ≤ 0 → k.lefts = [])) ?_ ?_ ys _ ⟨[], Sl.no, rfl, rfl, hy, by rw [List.length_nil]; omega, fun z h => nomatch h⟩
  · rintro s ⟨zs, sl, _, rfl, _, hl, g⟩
    walk_at "d"
    exact k zs (by rw [List.length_nil] at hl; omega) g
  · rintro y r s ⟨zs, sl, ho, rfl, hr, hl, g⟩ ih
    obtain ⟨kd, hkd⟩ := hr y (List.mem_cons_self ..)
    have hm := lkS_mem hkd
    have nxt : ∀ zs' : List Str, zs'.length + r.length < 64 → (∀ z ∈ zs', ∃ k, lkS kn z = some k ∧ k.fin = e ∧ (m ≤ 0 → k.lefts = [])) → _ := fun zs' h1 h2 => ih [Sl.val (.dct (knK kn) (knD kn)), Sl.val (.int e), Sl.val (.int m), Sl.own (zs'.map D.str), Sl.val (.str y)] ⟨zs', _, rfl, rfl, fun q hq => hr q (List.mem_cons_of_mem _ hq), h1, h2⟩
    walk_at "r"
    walk_at "d"
    have skip := nxt zs (by rw [List.length_cons] at hl; omega) g
    rw [lk_kn, hkd]
    walk_at "d"
    refine ⟨kd, rfl, dep_small (ok.1 _ hm).2.2, ?_⟩
    walk_at "d"
    cases c : decide (kd.fin = e) with
    | false => exact skip
    | true =>
      have app : (m ≤ 0 → kd.lefts = []) → _ := fun hq => nxt (zs ++ [y]) (by rw [List.length_append]; rw [List.length_cons] at hl; simpa using by omega) fun z hz => by
        rcases List.mem_append.mp hz with h | h
        · exact g z h
        · rw [List.mem_singleton.mp h]; exact ⟨kd, hkd, of_decide_eq_true c, hq⟩
      rw [List.map_append] at app
      walk_at "d"
      cases c2 : decide (0 < m) with
      | true =>
        walk_at "r"
        walk_at "d"
        refine ⟨by rw [List.length_map]; rw [List.length_cons] at hl; omega, ?_⟩
        exact app fun h => absurd (of_decide_eq_true c2) (by omega)
      | false =>
        walk_at "r"
        walk_at "d"
        rw [lk_kn, hkd]
        walk_at "d"
        refine ⟨isok_kd kd, ?_⟩
        rw [isi_kd]
        cases hk : kd.lefts with
        | nil =>
          walk_at "r"
          walk_at "d"
          refine ⟨by rw [List.length_map]; rw [List.length_cons] at hl; omega, ?_⟩
          exact app fun _ => hk
        | cons x xs => exact skip
end

end K10
set_option maxRecDepth 100000
set_option maxHeartbeats 2000000
namespace K10
open PySem PySem.Spec PyProof.Rows L2 Us Dl
def fitN : Nat → Nat
  | 0 => 3
  | m + 1 => 2 * fitN m + 5
theorem fitN_le {m : Nat} (h : m ≤ 3) : fitN m ≤ 59 := by
  match m, h with
  | 0, _ => decide
  | 1, _ => decide
  | 2, _ => decide
  | 3, _ => decide
def dFit (n : Nat) : DSp := fun ds P _ => ∃ kn k, ∃ m : Nat, m < n ∧ m ≤ 3 ∧ ds = [.hand, .dct (knK kn) (knD kn), Kd.d k, .int m] ∧ knOk kn ∧ kn.length + 3 * m ≤ 40 ∧ k.good ∧ k.dep ≤ 2 ∧ ∀ t : Dl.Tm, t.good → t.size ≤ fitN m → P (.tup t.ds)
theorem lefts_good : ∀ {k : Kd}, k.good → ∀ l ∈ k.lefts, l.good
  | .pr l r, h, x, hx => by
    rcases List.mem_cons.mp hx with e | hx
    · rw [e]; exact h.1
    · exact lefts_good h.2 x hx
theorem lefts_dep : ∀ {k : Kd}, ∀ l ∈ k.lefts, l.dep < k.dep
  | .pr l r, x, hx => by
    show x.dep < max l.dep r.dep + 1
    rcases List.mem_cons.mp hx with e | hx
    · rw [e]; omega
    · have := lefts_dep (k := r) x hx; omega
theorem fin_good : ∀ {k : Kd}, k.good → (Kd.lt k.fin).good
  | .lt _, h => h
  | .pr l r, h => fin_good (k := r) h.2
theorem lefts_len : ∀ (k : Kd), k.lefts.length ≤ k.dep
  | .lt _ => Nat.le_refl _
  | .pr l r => by
    have := lefts_len r
    show (l :: r.lefts).length ≤ max l.dep r.dep + 1
    rw [List.length_cons]; omega
def ns1 : List Str := ["x", "y", "z", "x", "u", "v"]
def ns2 : List Str := ["x", "y", "q"]
theorem ns1_ok : ∀ z ∈ ns1, isNm z = true := by decide +kernel
theorem ns2_ok : ∀ z ∈ ns2, isNm z = true := by decide +kernel
theorem nm_w : isNm "w" = true := by decide +kernel
theorem str_mem {ns : List Str} {d : D} (h : d ∈ ns.map D.str) : ∃ z, z ∈ ns ∧ d = .str z := by
  obtain ⟨z, hz, e⟩ := List.mem_map.mp h
  exact ⟨z, hz, e.symm⟩
theorem putS_ok {kn : List (Str × Kd)} {z : Str} {l : Kd} (ok : knOk kn) (h : isNm z = true) (g : l.good) (d : l.dep ≤ 2) : knOk (putS kn z l) :=
  ⟨fun p hp => (putS_mem hp).elim (fun e => by rw [e]; exact ⟨h, g, d⟩) (ok.1 p), putS_nodup ok.2⟩
section
variable {P : Program} {w : World} {K : PySem.W.Frag} {mg : Str → Option Value} {base : Heap}
theorem fit_no (T : Txt K mg) : DefOk P w K mg base CX0 1 "_law_fit" p_law_fit (toSp K (dFit 0)) :=
  T.d_law_fit.ok sc_law_fit (fun _ _ _ _ _ _ us hl => match us, hl with | [_, _, _, _], _ => rfl) (fun vs H Q E ⟨a, B, ds, Pp, Xx, _, _, _, ⟨_, _, m, hm, _⟩, _⟩ => absurd hm (Nat.not_lt_zero _)) (fun fa cdv A outer s H vs Q E hr ⟨a, B, ds, Pp, Xx, _, _, _, ⟨_, _, m, hm, _⟩, _⟩ => absurd hm (Nat.not_lt_zero _))
theorem fit_step {n : Nat} (T : Txt K mg) (Dlaw_draw : DefOk P w K mg base CX0 1 "_law_draw" p_law_draw (toSp K dDraw)) (Dlaw_some : DefOk P w K mg base CX0 2 "_law_some" p_law_some (toSp K dSome)) (Dlaw_ends : DefOk P w K mg base CX0 1 "_law_ends" p_law_ends (toSp K dEnds))
    (Dlaw_kind : DefOk P w K mg base CX0 4 "_law_kind" p_law_kind (toSp K (dKind 3))) (Dlaw_heads : DefOk P w K mg base CX0 2 "_law_heads" p_law_heads (toSp K dHeads)) (Dlaw_fit : DefOk P w K mg base CX0 (n + 4) "_law_fit" p_law_fit (toSp K (dFit n))) : DefOk P w K mg base CX0 (n + 5) "_law_fit" p_law_fit (toSp K (dFit (n + 1))) := by
  refine T.d_law_fit.dl sc_law_fit (fun _ _ _ _ _ _ us hl => match us, hl with | [_, _, _, _], _ => rfl) (fun ds Q E ⟨kn, k, m, _, _, h, _⟩ => by rw [h]; rfl) (fun fa cdv A outer s H E hr => ⟨_, _, (dss_cons (ds_asg (de_call0 Dlaw_ends (hr.mono (by first | decide | omega)) (da_cons (dv 2) da_nil)) (dg_tup (n := 2) rfl (dgs_cons (dg_name (i := 4) (vs := [4, 5]) (by decide) sc_law_fit.nd rfl (Or.inl rfl)) (dgs_cons (dg_name (i := 5) (by decide) sc_law_fit.nd rfl (Or.inl rfl)) dgs_nil))))
    (dss_cons (ds_setK (i := 6) sc_law_fit.nd rfl (Or.inl rfl) (dk_t1V call_dictD' l_cpy T.f_dict (pv 1)))
    (dss_cons (ds_set (i := 7) sc_law_fit.nd rfl (Or.inl rfl) (de_tup da_nil))
    (dss_cons (ds_for (vs := [8]) PassesOwn.never rfl (di_list (dv 4)) (dg_name (i := 8) (by decide) sc_law_fit.nd rfl (Or.inl rfl))
      (dss_cons (ds_set (i := 9) sc_law_fit.nd rfl (Or.inl rfl) (de_call0 Dlaw_some (hr.mono (by first | decide | omega)) (da_cons (dv 0) (da_cons (de_n (dn_lst (da_cons de_str (da_cons de_str (da_cons de_str (da_cons de_str (da_cons de_str (da_cons de_str da_nil)))))))) da_nil))))
      (dss_cons (ds_set (i := 7) sc_law_fit.nd rfl (Or.inl rfl) (de_op (catA_k rfl) l_catT (dv 7) (de_tup (da_cons (de_tup (da_cons (dv 9) (da_cons (dv 8) da_nil))) da_nil))))
      (dss_one (ds_dput (hu_of hr) (pv 6) (dv 9) (dv 8) rfl)))))
    (dss_cons (ds_set (i := 10) sc_law_fit.nd rfl (Or.inl rfl) (de_call0 Dlaw_heads (hr.mono (by first | decide | omega)) (da_cons (dv 6) (da_cons (dv 5) (da_cons (dv 3) da_nil)))))
    (dss_cons (ds_if (dt_cmp op_eq l_eqS (de_b1V (len_k rfl) l_len T.f_len (pv 10)) de_int)
      (dss_one (ds_ret (de_op (catA_k rfl) l_catT (dv 7) (de_tup (da_cons (de_call0 Dlaw_some (hr.mono (by first | decide | omega)) (da_cons (dv 0) (da_cons (de_n (dn_cat (de_n (dn_b1V (call_sortedD' rfl) l_sorK T.f_sorted (pv 6))) (de_n (dn_lst (da_cons de_str da_nil))))) da_nil))) da_nil)))))
      dss_nil)
    (dss_cons (ds_set (i := 9) sc_law_fit.nd rfl (Or.inl rfl) (de_call0 Dlaw_some (hr.mono (by first | decide | omega)) (da_cons (dv 0) (da_cons (dv 10) da_nil))))
    (dss_cons (ds_set (i := 11) sc_law_fit.nd rfl (Or.inl rfl) (de_tup (da_cons (dv 9) da_nil)))
    (dss_cons (ds_for (vs := [8]) PassesOwn.never rfl (di_list (de_ix (de_call0 Dlaw_ends (hr.mono (by first | decide | omega)) (da_cons (de_dgetV (hu_of hr) (pv 6) (dv 9)) da_nil)) de_int)) (dg_name (i := 8) (by decide) sc_law_fit.nd rfl (Or.inl rfl))
      (dss_one (ds_set (i := 11) sc_law_fit.nd rfl (Or.inl rfl) (de_op (catA_k rfl) l_catT (de_op (catA_k rfl) l_catT (de_tup (da_cons de_str da_nil)) (dv 11)) (de_call0 Dlaw_fit (hr.mono (by first | decide | omega)) (da_cons (dv 0) (da_cons (dv 6) (da_cons (dv 8) (da_cons (de_op op_sub l_int (dv 3) de_int) da_nil)))))))))
    (dss_cons (ds_if (DPW.pt (dw_and (dt_cmp op_gt l_bool (dv 3) de_int) (dw_and1 (dt_cmp op_eq l_eqS (de_call0 Dlaw_draw (hr.mono (by first | decide | omega)) (da_cons (dv 0) (da_cons de_int da_nil))) de_int))))
      (dss_cons (ds_par (i := 9) (j := 8) rfl sc_law_fit.nd rfl rfl (by decide) rfl rfl (da_cons (de_call0 Dlaw_some (hr.mono (by first | decide | omega)) (da_cons (dv 0) (da_cons (de_n (dn_lst (da_cons de_str (da_cons de_str (da_cons de_str da_nil))))) da_nil))) (da_cons (de_call0 Dlaw_kind (hr.mono (by first | decide | omega)) (da_cons (dv 0) (da_cons de_int da_nil))) da_nil)) rfl)
      (dss_cons (ds_setK (i := 12) sc_law_fit.nd rfl (Or.inl rfl) (dk_t1V call_dictD' l_cpy T.f_dict (pv 6)))
      (dss_cons (ds_dput (hu_of hr) (pv 12) (dv 9) (dv 8) rfl)
      (dss_cons (ds_set (i := 13) sc_law_fit.nd rfl (Or.inl rfl) (de_call0 Dlaw_fit (hr.mono (by first | decide | omega)) (da_cons (dv 0) (da_cons (dv 12) (da_cons (dv 5) (da_cons (de_op op_sub l_int (dv 3) de_int) da_nil))))))
      (dss_one (ds_set (i := 11) sc_law_fit.nd rfl (Or.inl rfl) (de_op (catA_k rfl) l_catT (de_op (catA_k rfl) l_catT (de_tup (da_cons de_str (da_cons (de_tup (da_cons (dv 9) (da_cons (dv 8) da_nil))) da_nil))) (dv 13)) (de_call0 Dlaw_fit (hr.mono (by first | decide | omega)) (da_cons (dv 0) (da_cons (dv 6) (da_cons (dv 8) (da_cons (de_op op_sub l_int (dv 3) de_int) da_nil))))))))))))
      dss_nil)
    (dss_one (ds_ret (de_op (catA_k rfl) l_catT (dv 7) (dv 11)))))))))))))), fun ds Q E h => ?_⟩)
  obtain ⟨kn, k, m, hmn, hm3, rfl, ok, hlen, kg, kd, q⟩ := h
  have z0 : (1000 : Nat) ≤ sizeLine := by decide
  walk_at "d"
  refine ⟨k, rfl, dep_small kd, ?_⟩
  walk_at "r"
  walk_at "d"
  have hl2 : k.lefts.length ≤ 2 := Nat.le_trans (lefts_len k) kd
  refine for_ind Kd.d (fun rest s => ∃ (ps inner : List (Str × Kd)) (sl8 sl9 : Sl), sl8.isOwn = false ∧ sl9.isOwn = false ∧ s = [Sl.val .hand, Sl.val (.dct (knK kn) (knD kn)), Sl.val k.d, Sl.val (.int m), Sl.val (.lst (k.lefts.map Kd.d)), Sl.val (.int k.fin), Sl.ownK (knK inner) (knD inner), Sl.val (.tup (ps.map prD)), sl8, sl9, Sl.no, Sl.no, Sl.no, Sl.no] ∧
    knOk inner ∧ inner.length ≤ kn.length + ps.length ∧ ps.length + rest.length ≤ 2 ∧ (∀ l ∈ rest, l.good ∧ l.dep ≤ 2) ∧ ∀ p ∈ ps, isNm p.1 = true ∧ p.2.ok) ?_ ?_ k.lefts _
    ⟨[], kn, Sl.no, Sl.no, rfl, rfl, rfl, ok, Nat.le_add_right _ _, by rw [List.length_nil]; omega, fun l hl => ⟨lefts_good kg l hl, by have := lefts_dep l hl; omega⟩, fun p h => nomatch h⟩
  · rintro s ⟨ps, inner, sl8, sl9, h8, h9, rfl, oki, hil, hpl, _, hps⟩
    rw [List.length_nil] at hpl
    have hi64 : inner.length < 64 := by omega
    have fin : ∀ t : Dl.Tm, t.good → t.size + 2 ≤ fitN m → Q (.tup (ps.map prD ++ t.ds)) := fun t g h => by
      have := q (las ps t) (las_good g hps) (by rw [las_size]; omega)
      rw [las_ds] at this
      exact this
    walk_at "d"
    refine ⟨inner, k.fin, m, rfl, oki, hi64, fun zs hz hzs => ?_⟩
    walk_at "d"
    refine cnd_case (fun c => ?_) (fun c => ?_)
    · walk_at "d"
      rw [keyS_kn]
      walk_at "d"
      refine ⟨by rw [List.length_map]; exact hi64, fun ys hp _ => ?_⟩
      have hyl : ys.length = inner.length := by rw [hp.length_eq, List.length_map]
      walk_at "r"
      walk_at "d"
      refine ⟨by rw [List.length_map, List.length_singleton]; omega, ?_⟩
      walk_at "d"
      refine ⟨_, .inl rfl, by simp, by rw [List.length_append, List.length_map, List.length_singleton]; omega, fun d hd => ?_⟩
      obtain ⟨z, hz, rfl⟩ : ∃ z, isNm z = true ∧ d = .str z := by
        rcases List.mem_append.mp hd with h | h
        · obtain ⟨z, h1, rfl⟩ := str_mem h
          obtain ⟨p, h2, e⟩ := List.mem_map.mp (hp.mem_iff.mp h1)
          exact ⟨z, by rw [← e]; exact (oki.1 p h2).1, rfl⟩
        · exact ⟨_, nm_w, List.mem_singleton.mp h⟩
      walk_at "r"
      walk_at "d"
      refine ⟨by rw [List.length_map, List.length_singleton]; omega, ?_⟩
      exact fin (.nm z) hz (by show 1 + 2 ≤ fitN m; cases m with | zero => exact Nat.le_refl _ | succ m => show 3 ≤ 2 * fitN m + 5; omega)
    · have hne : zs ≠ [] := fun e => by rw [e] at c; cases c
      walk_at "d"
      refine ⟨_, .inl rfl, by simpa using hne, by rw [List.length_map]; omega, fun d hd => ?_⟩
      obtain ⟨z, hzm, rfl⟩ := str_mem hd
      obtain ⟨kz, hlk, hfz, hm0⟩ := hzs z hzm
      have hkz := oki.1 _ (lkS_mem hlk)
      walk_at "r"
      walk_at "d"
      rw [lk_kn, hlk]
      walk_at "d"
      refine ⟨kz, rfl, dep_small hkz.2.2, ?_⟩
      walk_at "d"
      have hkd : kz.dep ≤ 2 := hkz.2.2
      have hk2 : kz.lefts.length ≤ 2 := Nat.le_trans (lefts_len kz) hkz.2.2
      have pos : kz.lefts ≠ [] → 1 ≤ m := fun h => by
        rcases Nat.eq_zero_or_pos m with e | e
        · exact absurd (hm0 (by omega)) h
        · exact e
      have hmc : m = 0 ∨ ∃ m', m = m' + 1 ∧ fitN m = 2 * fitN m' + 5 ∧ fitN m' ≤ 59 := by
        cases m with
        | zero => exact .inl rfl
        | succ m => exact .inr ⟨m, rfl, rfl, fitN_le (by omega)⟩
      have em1 : ∀ m', m = m' + 1 → (m : Int) - 1 = (m' : Int) := fun m' h => by omega
      refine for_ind Kd.d (fun rest s => ∃ (t : Dl.Tm) (sl8 : Sl), sl8.isOwn = false ∧ s = [Sl.val .hand, Sl.val (.dct (knK kn) (knD kn)), Sl.val k.d, Sl.val (.int m), Sl.val (.lst (k.lefts.map Kd.d)), Sl.val (.int k.fin), Sl.val (.dct (knK inner) (knD inner)), Sl.val (.tup (ps.map prD)), sl8, Sl.val (.str z), Sl.val (.lst (zs.map D.str)), Sl.val (.tup t.ds), Sl.no, Sl.no] ∧
        t.good ∧ rest.length ≤ 2 ∧ (rest ≠ [] → 1 ≤ m) ∧ t.size + rest.length * (1 + fitN (m - 1)) ≤ 1 + (if m = 0 then 0 else 2 * (1 + fitN (m - 1))) ∧ ∀ l ∈ rest, l.good ∧ l.dep ≤ 2) ?_ ?_ kz.lefts _
        ⟨.nm z, sl8, h8, rfl, hkz.1, hk2, pos, ?_, fun l hl => ⟨lefts_good hkz.2.1 l hl, by have := lefts_dep l hl; omega⟩⟩
      · rintro s ⟨t, sl8', h8', rfl, tg, _, _, ts, _⟩
        have tfin : t.size + 2 ≤ fitN m := by
          rw [List.length_nil] at ts
          rcases hmc with e | ⟨m', e, e2, _⟩
          · subst e; rw [if_pos rfl] at ts; show t.size + 2 ≤ 3; omega
          · rw [if_neg (by omega), show m - 1 = m' by omega] at ts; omega
        have tend := fin t tg tfin
        have fits : fitN m ≤ 59 := fitN_le hm3
        walk_at "d"
        cases c2 : decide ((0 : Int) < m) with
        | false =>
          walk_at "d"
          refine ⟨by rw [List.length_map, t.ds_len]; omega, ?_⟩
          exact tend
        | true =>
          have hmp : (0 : Int) < m := of_decide_eq_true c2
          obtain ⟨m', e, e2, e3⟩ : ∃ m', m = m' + 1 ∧ fitN m = 2 * fitN m' + 5 ∧ fitN m' ≤ 59 := hmc.resolve_left (by omega)
          walk_at "d"
          refine ⟨6, rfl, by decide, by decide, fun d d0 d1 => ?_⟩
          walk_at "d"
          refine cnd_case (fun c3 => ?_) (fun c3 => ?_)
          · walk_at "r"
            walk_at "d"
            refine ⟨ns2.map D.str, .inl rfl, by decide, by decide, fun d hd => ?_⟩
            obtain ⟨z2, hz2, rfl⟩ := str_mem hd
            walk_at "d"
            refine ⟨1, by decide, rfl, fun k1 g1 p1 => ?_⟩
            walk_at "r"
            walk_at "d"
            refine ⟨by unfold knK; rw [List.length_map]; omega, ?_⟩
            rw [put_kn k1 z2 inner oki.2]
            have okw := putS_ok oki (ns2_ok z2 hz2) g1 (by omega)
            have lw := putS_len (z := z2) (k := k1) inner
            walk_at "d"
            refine ⟨putS inner z2 k1, .lt k.fin, m', by omega, by omega, by rw [← em1 m' e]; rfl, okw, by omega, fin_good kg, Nat.zero_le _, fun t1 tg1 ts1 => ?_⟩
            walk_at "r"
            walk_at "d"
            have tl1 : t1.ds.length ≤ 59 := by rw [t1.ds_len]; omega
            refine ⟨show [D.str "@", D.tup [.str z2, k1.d]].length + t1.ds.length ≤ sizeLine by show 2 + t1.ds.length ≤ sizeLine; omega, ?_⟩
            walk_at "d"
            refine ⟨inner, k1, m', by omega, by omega, by rw [← em1 m' e], oki, by omega, g1, by omega, fun t2 tg2 ts2 => ?_⟩
            have tl2 : t2.ds.length ≤ 59 := by rw [t2.ds_len]; omega
            walk_at "d"
            refine ⟨show (D.str "@" :: D.tup [.str z2, k1.d] :: t1.ds).length + t2.ds.length ≤ sizeLine by rw [List.length_cons, List.length_cons]; omega, ?_⟩
            have tend2 := fin (.ap (.la z2 k1 t1) t2) ⟨⟨ns2_ok z2 hz2, ⟨g1, by omega⟩, tg1⟩, tg2⟩ (by show t1.size + 1 + t2.size + 1 + 2 ≤ _; omega)
            have eds : (Tm.ap (.la z2 k1 t1) t2).ds = D.str "@" :: D.tup [.str z2, k1.d] :: t1.ds ++ t2.ds := by
              show D.str "@" :: ((.tk z2 k1 :: t1.flat) ++ t2.flat : List Wd).map Wd.d = _
              rw [List.map_append]; rfl
            rw [eds] at tend2
            walk_at "d"
            refine ⟨by rw [List.length_map]; show ps.length + (D.str "@" :: D.tup [.str z2, k1.d] :: (t1.ds ++ t2.ds)).length ≤ sizeLine; rw [List.length_cons, List.length_cons, List.length_append]; omega, ?_⟩
            exact tend2
          · walk_at "d"
            refine ⟨by rw [List.length_map, t.ds_len]; omega, ?_⟩
            exact tend
      · rintro l r s ⟨t, sl8', h8', rfl, tg, hr2, hm1, ts, hl⟩ ih
        have hm := hm1 (by simp)
        obtain ⟨m', e, e2, e3⟩ : ∃ m', m = m' + 1 ∧ fitN m = 2 * fitN m' + 5 ∧ fitN m' ≤ 59 := hmc.resolve_left (by omega)
        obtain ⟨lg, ld⟩ := hl l (List.mem_cons_self ..)
        have em : m - 1 = m' := by omega
        rw [em] at ts ih
        rw [if_neg (by omega)] at ts ih
        rw [List.length_cons] at ts hr2
        have ts2 : t.size + (r.length * (1 + fitN m') + (1 + fitN m')) ≤ 1 + 2 * (1 + fitN m') := by rw [← Nat.succ_mul]; exact ts
        have tl : t.ds.length ≤ 121 := by rw [t.ds_len]; omega
        walk_at "r"
        walk_at "d"
        refine ⟨show [D.str "@"].length + t.ds.length ≤ sizeLine by show 1 + t.ds.length ≤ sizeLine; omega, ?_⟩
        walk_at "d"
        refine ⟨inner, l, m', by omega, by omega, by rw [← em1 m' e], oki, by omega, lg, ld, fun t' tg' ts' => ?_⟩
        have tl' : t'.ds.length ≤ 59 := by rw [t'.ds_len]; omega
        walk_at "d"
        refine ⟨show (D.str "@" :: t.ds).length + t'.ds.length ≤ sizeLine by rw [List.length_cons]; omega, ?_⟩
        refine ih _ ⟨.ap t t', Sl.val l.d, rfl, ?_, ⟨tg, tg'⟩, by omega, fun _ => hm, ?_, fun x hx => hl x (List.mem_cons_of_mem _ hx)⟩
        · have : (Tm.ap t t').ds = [D.str "@"] ++ t.ds ++ t'.ds := by
            show D.str "@" :: (t.flat ++ t'.flat).map Wd.d = _
            rw [List.map_append]; rfl
          rw [this]; rfl
        · show t.size + t'.size + 1 + r.length * (1 + fitN m') ≤ _
          omega
      · show 1 + kz.lefts.length * (1 + fitN (m - 1)) ≤ _
        by_cases h0 : m = 0
        · rw [hm0 (by omega), if_pos h0]; exact Nat.le_of_eq (by rw [List.length_nil, Nat.zero_mul])
        · rw [if_neg h0]
          exact Nat.add_le_add_left (Nat.mul_le_mul_right _ hk2) _
  · rintro l r s ⟨ps, inner, sl8, sl9, h8, h9, rfl, oki, hil, hpl, hrest, hps⟩ ih
    rw [List.length_cons] at hpl
    obtain ⟨lg, ld⟩ := hrest l (List.mem_cons_self ..)
    walk_at "r"
    walk_at "d"
    refine ⟨ns1.map D.str, .inl rfl, by decide, by decide, fun d hd => ?_⟩
    obtain ⟨z, hz, rfl⟩ := str_mem hd
    walk_at "r"
    walk_at "d"
    refine ⟨by rw [List.length_map, List.length_singleton]; omega, ?_⟩
    walk_at "r"
    walk_at "d"
    refine ⟨by unfold knK; rw [List.length_map]; omega, ?_⟩
    rw [put_kn l z inner oki.2]
    refine ih _ ⟨ps ++ [(z, l)], putS inner z l, Sl.val l.d, Sl.val (.str z), rfl, rfl, ?_, putS_ok oki (ns1_ok z hz) lg ld, ?_, ?_, fun x hx => hrest x (List.mem_cons_of_mem _ hx), fun p hp => ?_⟩
    · rw [List.map_append]; rfl
    · have := putS_len (z := z) (k := l) inner
      rw [List.length_append, List.length_singleton]; omega
    · rw [List.length_append, List.length_singleton]; omega
    · rcases List.mem_append.mp hp with h | h
      · exact hps p h
      · rw [List.mem_singleton.mp h]; exact ⟨ns1_ok z hz, lg, ld⟩
theorem ok_fit (T : Txt K mg) (Dlaw_draw : DefOk P w K mg base CX0 1 "_law_draw" p_law_draw (toSp K dDraw)) (Dlaw_some : DefOk P w K mg base CX0 2 "_law_some" p_law_some (toSp K dSome)) (Dlaw_ends : DefOk P w K mg base CX0 1 "_law_ends" p_law_ends (toSp K dEnds))
    (Dlaw_kind : DefOk P w K mg base CX0 4 "_law_kind" p_law_kind (toSp K (dKind 3))) (Dlaw_heads : DefOk P w K mg base CX0 2 "_law_heads" p_law_heads (toSp K dHeads)) : ∀ n, DefOk P w K mg base CX0 (n + 4) "_law_fit" p_law_fit (toSp K (dFit n))
  | 0 => (fit_no T).mono (by omega)
  | n + 1 => fit_step T Dlaw_draw Dlaw_some Dlaw_ends Dlaw_kind Dlaw_heads (ok_fit T Dlaw_draw Dlaw_some Dlaw_ends Dlaw_kind Dlaw_heads n)
end

end K10
set_option maxRecDepth 100000
set_option maxHeartbeats 2000000
namespace K10
open PySem PySem.Spec PyProof.Rows L2 Us Dl
def loN : Nat → Nat
  | 0 => 1
  | m + 1 => 2 * loN m + 1
theorem loN_le {m : Nat} (h : m ≤ 3) : loN m ≤ 15 := by
  match m, h with
  | 0, _ => decide
  | 1, _ => decide
  | 2, _ => decide
  | 3, _ => decide
theorem loN_pos : ∀ m, 1 ≤ loN m
  | 0 => Nat.le_refl _
  | m + 1 => by show 1 ≤ 2 * loN m + 1; omega
def dLoose (n : Nat) : DSp := fun ds P _ => ∃ ns : List Str, ∃ m : Nat, m < n ∧ m ≤ 3 ∧ ds = [.hand, .lst (ns.map D.str), .int m] ∧ ns ≠ [] ∧ ns.length < 1000 ∧ (∀ z ∈ ns, isNm z = true) ∧ ∀ t : Dl.Tm, t.good → t.size ≤ loN m → P (.tup t.ds)
def dProg : DSp := fun ds P _ => ∃ ps : List (Str × Kd), ds = [.hand, .ptup (ps.map prD), .int 3] ∧ ps.length ≤ 9 ∧ knOk ps ∧ ∀ t : Dl.Tm, t.good → t.size ≤ 60 → P (.tup t.ds)
section
variable {P : Program} {w : World} {K : PySem.W.Frag} {mg : Str → Option Value} {base : Heap}
theorem loose_no (T : Txt K mg) : DefOk P w K mg base CX0 1 "_law_loose" p_law_loose (toSp K (dLoose 0)) :=
  T.d_law_loose.ok sc_law_loose (fun _ _ _ _ _ _ us hl => match us, hl with | [_, _, _], _ => rfl) (fun vs H Q E ⟨a, B, ds, Pp, Xx, _, _, _, ⟨_, m, hm, _⟩, _⟩ => absurd hm (Nat.not_lt_zero _)) (fun fa cdv A outer s H vs Q E hr ⟨a, B, ds, Pp, Xx, _, _, _, ⟨_, m, hm, _⟩, _⟩ => absurd hm (Nat.not_lt_zero _))
theorem loose_step {n : Nat} (T : Txt K mg) (Dlaw_draw : DefOk P w K mg base CX0 1 "_law_draw" p_law_draw (toSp K dDraw)) (Dlaw_some : DefOk P w K mg base CX0 2 "_law_some" p_law_some (toSp K dSome))
    (Dlaw_kind : DefOk P w K mg base CX0 4 "_law_kind" p_law_kind (toSp K (dKind 3))) (Dlaw_loose : DefOk P w K mg base CX0 (n + 4) "_law_loose" p_law_loose (toSp K (dLoose n))) : DefOk P w K mg base CX0 (n + 5) "_law_loose" p_law_loose (toSp K (dLoose (n + 1))) := by
  refine T.d_law_loose.dl sc_law_loose (fun _ _ _ _ _ _ us hl => match us, hl with | [_, _, _], _ => rfl) (fun ds Q E ⟨ns, m, _, _, h, _⟩ => by rw [h]; rfl) (fun fa cdv A outer s H E hr => ⟨_, _, (dss_cons (ds_set (i := 3) sc_law_loose.nd rfl (Or.inl rfl) (de_if (dt_cmp op_gt l_bool (dv 2) de_int) (de_call0 Dlaw_draw (hr.mono (by first | decide | omega)) (da_cons (dv 0) (da_cons de_int da_nil))) de_int))
    (dss_cons (ds_if (dt_cmp op_eq l_eqS (dv 3) de_int)
      (dss_one (ds_ret (de_tup (da_cons (de_call0 Dlaw_some (hr.mono (by first | decide | omega)) (da_cons (dv 0) (da_cons (dv 1) da_nil))) da_nil))))
      dss_nil)
    (dss_cons (ds_if (dt_cmp op_lt l_bool (dv 3) de_int)
      (dss_one (ds_ret (de_op (catA_k rfl) l_catT (de_op (catA_k rfl) l_catT (de_tup (da_cons de_str da_nil)) (de_call0 Dlaw_loose (hr.mono (by first | decide | omega)) (da_cons (dv 0) (da_cons (dv 1) (da_cons (de_op op_sub l_int (dv 2) de_int) da_nil))))) (de_call0 Dlaw_loose (hr.mono (by first | decide | omega)) (da_cons (dv 0) (da_cons (dv 1) (da_cons (de_op op_sub l_int (dv 2) de_int) da_nil)))))))
      dss_nil)
    (dss_one (ds_ret (de_op (catA_k rfl) l_catT (de_tup (da_cons (de_tup (da_cons (de_call0 Dlaw_some (hr.mono (by first | decide | omega)) (da_cons (dv 0) (da_cons (dv 1) da_nil))) (da_cons (de_call0 Dlaw_kind (hr.mono (by first | decide | omega)) (da_cons (dv 0) (da_cons de_int da_nil))) da_nil))) da_nil)) (de_call0 Dlaw_loose (hr.mono (by first | decide | omega)) (da_cons (dv 0) (da_cons (dv 1) (da_cons (de_op op_sub l_int (dv 2) de_int) da_nil)))))))))), fun ds Q E h => ?_⟩)
  obtain ⟨ns, m, hmn, hm3, rfl, hne, hnl, hns, q⟩ := h
  have z0 : (1000 : Nat) ≤ sizeLine := by decide
  have one : ∀ d, d ∈ ns.map D.str → ∃ z, isNm z = true ∧ d = .str z := fun d hd => by
    obtain ⟨z, h1, e⟩ := str_mem hd
    exact ⟨z, hns z h1, e⟩
  have hne' : ns.map D.str ≠ [] := by simpa using hne
  have hnl' : (ns.map D.str).length < 1073741824 := by rw [List.length_map]; omega
  walk_at "d"
  refine cnd_case (fun c => ?_) (fun c => ?_)
  · have hmp : (0 : Int) < m := of_decide_eq_true c
    obtain ⟨m', e⟩ : ∃ m', m = m' + 1 := ⟨m - 1, by omega⟩
    have em : (m : Int) - 1 = (m' : Int) := by omega
    have hlo : loN m' ≤ 15 := loN_le (by omega)
    have elo : loN m = 2 * loN m' + 1 := by rw [e]; rfl
    walk_at "d"
    refine ⟨4, rfl, by decide, by decide, fun d d0 d1 => ?_⟩
    walk_at "d"
    refine cnd_case (fun c1 => ?_) (fun c1 => ?_)
    · walk_at "d"
      refine ⟨_, .inl rfl, hne', hnl', fun d hd => ?_⟩
      obtain ⟨z, hz, rfl⟩ := one d hd
      walk_at "r"
      walk_at "d"
      exact q (.nm z) hz (loN_pos m)
    · walk_at "d"
      refine cnd_case (fun c2 => ?_) (fun c2 => ?_)
      · walk_at "r"
        walk_at "d"
        refine ⟨ns, m', by omega, by omega, by rw [← em], hne, hnl, hns, fun t1 g1 s1 => ?_⟩
        have l1 : t1.ds.length ≤ 15 := by rw [t1.ds_len]; omega
        walk_at "d"
        refine ⟨show [D.str "@"].length + t1.ds.length ≤ sizeLine by show 1 + _ ≤ sizeLine; omega, ?_⟩
        walk_at "d"
        refine ⟨ns, m', by omega, by omega, by rw [← em], hne, hnl, hns, fun t2 g2 s2 => ?_⟩
        have l2 : t2.ds.length ≤ 15 := by rw [t2.ds_len]; omega
        walk_at "d"
        refine ⟨show (D.str "@" :: t1.ds).length + t2.ds.length ≤ sizeLine by rw [List.length_cons]; omega, ?_⟩
        have h := q (.ap t1 t2) ⟨g1, g2⟩ (by show t1.size + t2.size + 1 ≤ _; omega)
        rw [show (Tm.ap t1 t2).ds = D.str "@" :: t1.ds ++ t2.ds by show D.str "@" :: (t1.flat ++ t2.flat).map Wd.d = _; rw [List.map_append]; rfl] at h
        exact h
      · walk_at "d"
        refine ⟨_, .inl rfl, hne', hnl', fun d hd => ?_⟩
        obtain ⟨z, hz, rfl⟩ := one d hd
        walk_at "d"
        refine ⟨1, by decide, rfl, fun k1 g1 p1 => ?_⟩
        walk_at "r"
        walk_at "d"
        refine ⟨ns, m', by omega, by omega, by rw [← em], hne, hnl, hns, fun t1 tg1 s1 => ?_⟩
        have l1 : t1.ds.length ≤ 15 := by rw [t1.ds_len]; omega
        walk_at "d"
        refine ⟨show [D.tup [.str z, k1.d]].length + t1.ds.length ≤ sizeLine by show 1 + _ ≤ sizeLine; omega, ?_⟩
        exact q (.la z k1 t1) ⟨hz, ⟨g1, by omega⟩, tg1⟩ (by show t1.size + 1 ≤ _; omega)
  · walk_at "d"
    refine ⟨_, .inl rfl, hne', hnl', fun d hd => ?_⟩
    obtain ⟨z, hz, rfl⟩ := one d hd
    walk_at "r"
    walk_at "d"
    exact q (.nm z) hz (loN_pos m)
theorem ok_loose (T : Txt K mg) (Dlaw_draw : DefOk P w K mg base CX0 1 "_law_draw" p_law_draw (toSp K dDraw)) (Dlaw_some : DefOk P w K mg base CX0 2 "_law_some" p_law_some (toSp K dSome))
    (Dlaw_kind : DefOk P w K mg base CX0 4 "_law_kind" p_law_kind (toSp K (dKind 3))) : ∀ n, DefOk P w K mg base CX0 (n + 4) "_law_loose" p_law_loose (toSp K (dLoose n))
  | 0 => (loose_no T).mono (by omega)
  | n + 1 => loose_step T Dlaw_draw Dlaw_some Dlaw_kind (ok_loose T Dlaw_draw Dlaw_some Dlaw_kind n)
end

end K10
set_option maxRecDepth 100000
set_option maxHeartbeats 2000000
namespace K10
open PySem PySem.Spec PyProof.Rows L2 Us Dl
theorem putS_new {z : Str} {k : Kd} : ∀ {kn : List (Str × Kd)}, z ∉ kn.map (·.1) → putS kn z k = kn ++ [(z, k)]
  | [], _ => rfl
  | (x, k0) :: r, h => by
    unfold putS
    rw [if_neg (fun e => h (by rw [← e]; exact List.mem_cons_self ..)), putS_new fun q => h (List.mem_cons_of_mem _ q)]; rfl
theorem merge_kn : ∀ (ps a : List (Str × Kd)), ((a ++ ps).map (·.1)).Nodup → mergeD (knK a, knD a) (ps.map fun p => (.inr p.1, p.2.d)) = (knK (a ++ ps), knD (a ++ ps))
  | [], a, _ => by rw [List.append_nil]; rfl
  | (z, k) :: r, a, h => by
    have hd : a.map (·.1) ++ z :: r.map (·.1) = (a ++ (z, k) :: r).map (·.1) := by rw [List.map_append]; rfl
    have na : (a.map (·.1)).Nodup := by rw [← hd] at h; exact (List.nodup_append.mp h).1
    have nz : z ∉ a.map (·.1) := by
      rw [← hd] at h
      exact fun q => (List.nodup_append.mp h).2.2 z q z (List.mem_cons_self ..) rfl
    have ih := merge_kn r (a ++ [(z, k)]) (by rw [List.append_assoc]; exact h)
    rw [List.append_assoc] at ih
    rw [← putS_new nz] at ih
    show mergeD (putKD (knK a) (knD a) (.inr z) k.d) _ = _
    rw [put_kn k z a na]
    exact ih
theorem prs_kn : ∀ ps : List (Str × Kd), prsD (ps.map prD) = some (ps.map fun p => (.inr p.1, p.2.d))
  | [] => rfl
  | (z, k) :: r => by
    show prsD (D.tup [.str z, k.d] :: r.map prD) = _
    unfold prsD
    rw [prs_kn r]; rfl
def ns3 : List Str := ["x", "y", "z"]
theorem ns3_ok : ∀ z ∈ ns3, isNm z = true := by decide +kernel
theorem nm_x : isNm "x" = true := by decide +kernel
section
variable {P : Program} {w : World} {K : PySem.W.Frag} {mg : Str → Option Value} {base : Heap}
theorem ok_prog (T : Txt K mg) (Dlaw_draw : DefOk P w K mg base CX0 1 "_law_draw" p_law_draw (toSp K dDraw)) (Dlaw_kind : DefOk P w K mg base CX0 4 "_law_kind" p_law_kind (toSp K (dKind 3)))
    (Dlaw_loose : DefOk P w K mg base CX0 8 "_law_loose" p_law_loose (toSp K (dLoose 4))) (Dlaw_fit : DefOk P w K mg base CX0 8 "_law_fit" p_law_fit (toSp K (dFit 4))) : DefOk P w K mg base CX0 9 "_law_some_program" p_law_some_program (toSp K dProg) := by
  refine T.d_law_some_program.dl sc_law_some_program (fun _ _ _ _ _ _ us hl => match us, hl with | [_, _, _], _ => rfl) (fun ds Q E ⟨ps, h, _⟩ => by rw [h]; rfl) (fun fa cdv A outer s H E hr => ⟨_, _, (dss_cons (ds_for (vs := [3]) PassesOwn.never rfl (di_range1 rfl T.f_range (da_cons de_int da_nil)) (dg_name (i := 3) (by decide) sc_law_some_program.nd rfl (Or.inl rfl))
      (dss_cons (ds_if (dt_cmp op_eq l_eqS (de_call0 Dlaw_draw (hr.mono (by first | decide | omega)) (da_cons (dv 0) (da_cons de_int da_nil))) de_int)
        (dss_one (ds_set (i := 4) sc_law_some_program.nd rfl (Or.inl rfl) (de_call0 Dlaw_loose (hr.mono (by first | decide | omega)) (da_cons (dv 0) (da_cons (de_n (dn_cat (de_n (dn_lcm (own := [("_law_name", 5), ("_law_kind_here", 6)]) rfl sc_law_some_program.nd (di_ptup (dv 1)) (blkOk_by (own := [("_law_name", 5), ("_law_kind_here", 6)]) (N := n_law_some_program) (sc := defScope s_law_some_program) (by decide +kernel)) (fun _ _ _ _ _ => (dg_tup (n := 2) rfl (dgs_cons (dg_name (i := 5) (by decide) sc_law_some_program.nd rfl (Or.inl rfl)) (dgs_cons (dg_name (i := 6) (by decide) sc_law_some_program.nd rfl (Or.inl rfl)) dgs_nil)))) (fun _ _ _ _ _ => dts_nil) (fun _ _ _ _ _ => (dv 5)))) (de_n (dn_lst (da_cons de_str (da_cons de_str (da_cons de_str da_nil))))))) (da_cons (dv 2) da_nil))))))
        (dss_one (ds_set (i := 4) sc_law_some_program.nd rfl (Or.inl rfl) (de_call0 Dlaw_fit (hr.mono (by first | decide | omega)) (da_cons (dv 0) (da_cons (de_k (dk_t1V (dictT_k rfl rfl) l_dicT T.f_dict (pv 1))) (da_cons (de_call0 Dlaw_kind (hr.mono (by first | decide | omega)) (da_cons (dv 0) (da_cons de_int da_nil))) (da_cons (dv 2) da_nil))))))))
      (dss_one (ds_if (dt_cmp op_le l_bool (de_b1V (len_k rfl) l_len T.f_len (pv 4)) de_int)
        (dss_one (ds_ret (dv 4)))
        dss_nil))))
    (dss_one (ds_ret (de_tup (da_cons (de_tup (da_cons de_str (da_cons de_int da_nil))) (da_cons de_str da_nil)))))), fun ds Q E h => ?_⟩)
  obtain ⟨ps, rfl, h9, ok, q⟩ := h
  have z0 : (1000 : Nat) ≤ sizeLine := by decide
  walk_at "r"
  refine for_ind (fun i : Nat => D.int (0 + (i : Int))) (fun rest s => ∃ sl3 sl4 : Sl, sl3.isOwn = false ∧ sl4.isOwn = false ∧ s = [Sl.val .hand, Sl.val (.ptup (ps.map prD)), Sl.val (.int 3), sl3, sl4, Sl.no, Sl.no]) ?_ ?_ (List.range 6) _ ⟨Sl.no, Sl.no, rfl, rfl, rfl⟩
  · rintro s ⟨sl3, sl4, _, _, rfl⟩
    walk_at "r"
    walk_at "d"
    exact q (.la "x" (.lt 0) (.nm "x")) ⟨nm_x, ⟨⟨by decide, by decide⟩, by decide⟩, nm_x⟩ (by decide)
  · rintro i r s ⟨sl3, sl4, h3, h4, rfl⟩ ih
    have fin : ∀ (t : Dl.Tm), t.good → t.size ≤ 59 → Q (.tup t.ds) := fun t g h => q t g (by omega)
    walk_at "d"
    refine ⟨4, rfl, by decide, by decide, fun d d0 d1 => ?_⟩
    walk_at "d"
    refine cnd_case (fun c => ?_) (fun c => ?_)
    · walk_at "d"
      refine lc_ind prD (fun rest acc s => ∃ dn, dn ++ rest = ps ∧ acc = dn.map (fun p => D.str p.1) ∧ s = [Sl.val .hand, Sl.val (.ptup (ps.map prD)), Sl.val (.int 3), Sl.val (.int (0 + (i : Int))), sl4, Sl.no, Sl.no]) ?_ ?_ ps [] _ ⟨[], rfl, rfl, rfl⟩
      · rintro acc s ⟨dn, e, rfl, rfl⟩
        rw [List.append_nil] at e
        subst e
        walk_at "r"
        walk_at "d"
        refine ⟨show (dn.map fun p => D.str p.1).length + 3 ≤ sizeLine by rw [List.length_map]; omega, ?_⟩
        walk_at "d"
        refine ⟨dn.map (·.1) ++ ns3, 3, by decide, by decide, ?_, by simp [ns3], by rw [List.length_append, List.length_map]; show dn.length + 3 < 1000; omega, fun z hz => ?_, fun t tg ts => ?_⟩
        · rw [List.map_append, List.map_map]; rfl
        · rcases List.mem_append.mp hz with h | h
          · obtain ⟨p, h2, e⟩ := List.mem_map.mp h
            rw [← e]; exact (ok.1 p h2).1
          · exact ns3_ok z h
        · walk_at "d"
          refine cnd_case (fun c => ?_) (fun c => ?_)
          · exact fin t tg (by have : loN 3 = 15 := rfl; omega)
          · exact ih _ ⟨_, _, rfl, rfl, rfl⟩
      · rintro p rest acc s ⟨dn, e, rfl, rfl⟩ ih2
        walk_at "r"
        walk_at "d"
        refine ⟨by rw [List.length_map]; have := congrArg List.length e; rw [List.length_append, List.length_cons] at this; omega, ?_⟩
        exact ih2 _ _ ⟨dn ++ [p], by rw [List.append_assoc]; exact e, by rw [List.map_append]; rfl, rfl⟩
    · walk_at "d"
      rw [prs_kn]
      walk_at "d"
      refine ⟨2, by decide, rfl, fun k kg kd => ?_⟩
      walk_at "d"
      have em := merge_kn ps [] (by rw [List.nil_append]; exact ok.2)
      rw [List.nil_append] at em
      refine ⟨ps, k, 3, by decide, by decide, ?_, ok, by omega, kg, kd, fun t tg ts => ?_⟩
      · rw [show mergeD ([], []) (ps.map fun p => (.inr p.1, p.2.d)) = (knK ps, knD ps) from em]; rfl
      · walk_at "d"
        refine cnd_case (fun c => ?_) (fun c => ?_)
        · exact fin t tg (by have : fitN 3 = 59 := rfl; omega)
        · exact ih _ ⟨_, _, rfl, rfl, rfl⟩
end

end K10
set_option maxRecDepth 100000
set_option maxHeartbeats 2000000
/-! dict comprehensions -/
namespace Dl
open PySem PySem.Spec PyProof.Rows L2 Us
def dDcL (g : DG) (tt : DT) (tk tv : DE) (vs : List Nat) : List D → List Key × List D → List Sl → (List Key × List D → List Sl → Prop) → Prop
  | [], acc, s, P => P acc s
  | x :: r, acc, s, P => free s vs = true ∧ g x (wS s vs) fun s2 => tt s2 EXn fun b s3 => cnd b (tk s3 EXn fun d s4 => tv s4 EXn fun y s5 => keyP d fun k => acc.1.length < sizeLine ∧ dDcL g tt tk tv vs r (putKD acc.1 acc.2 k y) (rS s s5 vs) P) (dDcL g tt tk tv vs r acc (rS s s3 vs) P)
def dDc (t : DA) (g : DG) (tt : DT) (tk tv : DE) (vs : List Nat) : Wp (List Key × List D) := fun s E P => t s E fun xs s1 => dDcL g tt tk tv vs xs ([], []) s1 P
section
variable {X : Cx} {K : PySem.W.Frag} {W W' : WX}
theorem snd_dc {wi : TI} {td : DA} {g : TG} {dg : DG} {tt : TT} {dt : DT} {tk te : TE} {dk de : DE} {vs : List Nat} (hi : SndI K W wi td) (hg : SndG K vs g dg) (ht : Snd K W' RT tt dt) (hk : Snd K W' (RE K) tk dk) (he : Snd K W' (RE K) te de) : Snd K W (RK K) (tDc wi g tt tk te vs) (dDc td dg dt dk de vs) := fun a B0 H0 s σ B H E P Q R L hr k =>
  hi a B0 H0 s σ B H E _ _ R L hr fun xs s1 J B1 H1 f j q => by
    intro Dp hD
    have hD0 : H Dp = none := f.stp.fresh hD
    have hDo : ¬ Ow s1 σ Dp := f.rel.notOw hD
    have hDa : Dp ≠ a := fun z => f.rel.hand.ne (z ▸ hD)
    refine ⟨fun i m H' => ∃ s' B' acc us, Rel K a B0 H0 s' σ B' H' ∧ Same B1 B' ∧ H' Dp = some (.dK us) ∧ B' Dp = none ∧ (us.map (·.1) = acc.1 ∧ EmbL K a B' acc.2 (us.map (·.2))) ∧ (∀ p, Ow s' σ p → Ow s1 σ p) ∧ Stp (fun p => (p = a ∨ Ow s1 σ p) ∨ p = Dp) B1 H1 B' H' ∧ i ≤ xs.length ∧ m = xs.length - i ∧ dDcL dg dt dk de vs (xs.drop i) acc s' P, ⟨xs.length, s1, B1, ([], []), [], f.rel.pure (Stp.cell f.rel.gr.bh hD), Same.refl _, upd_same, bfresh f.rel.gr.bh hD, ⟨rfl, .nil⟩, fun _ z => z, Stp.cell f.rel.gr.bh hD, Nat.zero_le _, rfl, q⟩, ?_⟩
    rintro i m H2 ⟨s2, B2, acc, us, R2, sB, hDl, hDb, em, o2, st, hi', rfl, q2⟩
    by_cases hlt : i < xs.length
    · refine .inr ⟨j.go i B2 H2 sB R2.gr.bh hlt, fun H' => ∃ s' B' acc us, Rel K a B0 H0 s' σ B' H' ∧ Same B1 B' ∧ H' Dp = some (.dK us) ∧ B' Dp = none ∧ (us.map (·.1) = acc.1 ∧ EmbL K a B' acc.2 (us.map (·.2))) ∧ (∀ p, Ow s' σ p → Ow s1 σ p) ∧ Stp (fun p => (p = a ∨ Ow s1 σ p) ∨ p = Dp) B1 H1 B' H' ∧ dDcL dg dt dk de vs (xs.drop (i + 1)) acc s' P, ?_, fun x H3 y => ?_⟩
      · rintro H' ⟨s', B', acc', us', R', s'', h1, h2, h3, h4, h5, q'⟩
        exact ⟨xs.length - (i + 1), by omega, s', B', acc', us', R', s'', h1, h2, h3, h4, h5, hlt, rfl, q'⟩
      · obtain ⟨d, hd, B3, g3, emd⟩ := j.yld i B2 H2 x H3 sB R2.gr.bh hlt y
        have ed : xs.drop i = d :: xs.drop (i + 1) := by rw [List.drop_eq_getElem_cons hlt]; rw [List.getElem?_eq_getElem hlt] at hd; rw [Option.some.inj hd]
        rw [ed] at q2
        obtain ⟨fr, q2⟩ := q2
        have R3 := R2.pure g3
        have sB3 := sB.trans g3.bb
        have hDl3 := g3.keep _ _ id hDl
        have hDb3 : B3 Dp = none := (g3.old Dp id (by rw [hDl]; exact fun z => nomatch z)).trans hDb
        have st3 := st.trans g3.up
        have emL : us.map (·.1) = acc.1 ∧ EmbL K a B3 acc.2 (us.map (·.2)) := ⟨em.1, em.2.mono g3.bb⟩
        refine hg a B0 H0 (wS s2 vs) (wipe σ vs) B3 H3 d x _ _ R3.wipe emd q2 fun s4 σ4 R4 w4 o4 q4 => ?_
        have w4' : wipe σ4 vs = wipe σ vs := by
          have wi2 : ∀ us : List Nat, (∀ v ∈ us, v ∈ vs) → wipe (wipe σ us) vs = wipe σ vs := fun us => by
            induction us with
            | nil => intro _; rfl
            | cons v us ih =>
              intro h
              show wipe ((wipe σ us).set v none) vs = wipe σ vs
              rw [wipe_set (h v List.mem_cons_self)]
              exact ih fun w hw => h w (List.mem_cons_of_mem _ hw)
          rw [w4, wi2 vs fun v h => h]
        have own4 : ∀ p, Ow s4 σ4 p → Ow s1 σ p := fun p z => o2 p (ow_wipe (o4 p z))
        have nD : ∀ p, (p = a ∨ Ow s1 σ p) → p ≠ Dp := fun p z e => by
          subst e
          exact z.elim (fun z => hDa z) hDo
        refine ⟨w4', ht a B0 H0 s4 σ4 B3 H3 _ _ _ R4 lkn q4 fun c s5 c' B5 H5 f5 e5 q5 => ?_⟩
        cases e5
        have sB5 := sB3.trans f5.stp.bb
        have keepD : ∀ {s6 : List Sl} {B6 H6 : Hp}, Aft K a B0 H0 σ4 s4 B3 H3 s6 B6 H6 → H6 Dp = some (.dK us) ∧ B6 Dp = none := fun {s6 B6 H6} x => by
          have hw : ¬ (Dp = a ∨ Ow s4 σ4 Dp) := fun z => z.elim (fun z => hDa z) fun z => hDo (own4 _ z)
          exact ⟨x.stp.keep _ _ hw hDl3, (x.stp.old Dp hw (by rw [hDl3]; exact fun z => nomatch z)).trans hDb3⟩
        have stA : ∀ {s6 : List Sl} {B6 H6 : Hp}, Aft K a B0 H0 σ4 s4 B3 H3 s6 B6 H6 → Stp (fun p => (p = a ∨ Ow s1 σ p) ∨ p = Dp) B1 H1 B6 H6 := fun x => st3.trans (x.stp.mono fun b _ w => w.elim (fun z => .inl (.inl z)) fun z => .inl (.inr (own4 _ z)))
        have hl6 : ∀ {s6 : List Sl} {B6 H6 : Hp}, Rel K a B0 H0 s6 σ4 B6 H6 → s2.length = s6.length := fun R6 => by
          have e1 := congrArg List.length w4'
          rw [wipe_length, wipe_length] at e1
          rw [R2.len, R6.len, e1]
        have owA : ∀ {s6 : List Sl} {B6 H6 : Hp}, Aft K a B0 H0 σ4 s4 B3 H3 s6 B6 H6 → ∀ p, Ow (rS s2 s6 vs) σ p → Ow s1 σ p := fun x p z => own4 p (x.sub p (ow_back fr w4' (hl6 x.rel) z))
        cases c with
        | false =>
          obtain ⟨k1, k2⟩ := keepD f5
          exact iteF ⟨_, B5, acc, us, Rel.back R3 f5.rel f5.stp.bb fr w4', sB5, k1, k2, ⟨emL.1, emL.2.mono f5.stp.bb⟩, owA f5, stA f5, q5⟩
        | true =>
          refine iteT (hk a B0 H0 s5 σ4 B5 H5 _ _ _ f5.rel lkn q5 fun dk6 s6 vk B6 H6 f6 ek6 q6 => he a B0 H0 s6 σ4 B6 H6 _ _ _ f6.rel lkn q6 fun y s7 v B7 H7 f7 e7 q7 => ?_)
          obtain ⟨ky, hky, q7⟩ := keyP_at q7
          have f46 := f5.trans (f6.trans f7)
          obtain ⟨k1, k2⟩ := keepD f46
          have R6 : Rel K a B0 H0 (rS s2 s7 vs) σ B7 H7 := Rel.back R3 f46.rel f46.stp.bb fr w4'
          have emL6 := emL.2.mono f46.stp.bb
          obtain ⟨p1, p2⟩ := put_V ky e7 emL6
          rw [emL.1] at p1 p2
          refine ⟨us, ky, key_V hky ek6, k1, by have := congrArg List.length emL.1; rw [List.length_map] at this; rw [this]; exact q7.1, _, B7, putKD acc.1 acc.2 ky y, putK us ky v, ?_, sB3.trans f46.stp.bb, upd_same, k2, ⟨p1, p2⟩, owA f46, (stA f46).trans (Stp.set R6.gr.bh k2 (.inr rfl)), q7.2⟩
          have gD : Stp (Isa Dp) B7 H7 B7 (upd H7 Dp (.dK (putK us ky v))) := Stp.set R6.gr.bh k2 rfl
          have hDn : ¬ Ow (rS s2 s7 vs) σ Dp := fun z => hDo (owA f46 _ z)
          have h0D : H0 Dp = none := f.rel.gr.fresh hD
          exact R6.elsewhere gD (fun q w => by rw [show q = Dp from w]; exact hDn) (fun q w _ => .inr (by rw [show q = Dp from w]; exact h0D)) (R6.hand.mono gD (fun z => hDa (Eq.symm z)))
    · refine .inl ⟨j.stop i B2 H2 sB R2.gr.bh (by omega), ?_⟩
      rw [List.drop_eq_nil_of_le (by omega)] at q2
      have f2 : Aft K a B0 H0 σ s1 B1 H1 s2 B2 H2 := ⟨R2, st.unsee hD, o2⟩
      exact k acc s2 _ B2 H2 (f.trans f2) ⟨Dp, us, rfl, hDl, hDb, hD0, em.1, em.2⟩ q2
theorem dk_dc {kx vx tg iter : Expr} {ifs : List Expr} {scope : Scope} {own : List (Str × Nat)} {pos : Pos} {wi : TI} {td : DA} {g : TG} {dg : DG} {tt : TT} {dt : DT} {tk te : TE} {dk de : DE} (hc : X.calm = true) (hN : X.N.Nodup) (hi : DPI X K W tg iter wi td) (ok : BlkOk X.N X.env.scope scope own)
    (hg : ∀ (s : Shared) (H : Hp) (C : Addr) (cl : List (Str × Addr)) (fp : List Addr), DPG (X.blk s H scope (compEnvC scope cl C X.env) fp) K (own.map (·.2)) tg g dg) (ht : ∀ (s : Shared) (H : Hp) (C : Addr) (cl : List (Str × Addr)) (fp : List Addr), DPTs (X.blk s H scope (compEnvC scope cl C X.env) fp) K WXn ifs tt dt)
    (hk : ∀ (s : Shared) (H : Hp) (C : Addr) (cl : List (Str × Addr)) (fp : List Addr), DPE (X.blk s H scope (compEnvC scope cl C X.env) fp) K WXn kx tk dk) (he : ∀ (s : Shared) (H : Hp) (C : Addr) (cl : List (Str × Addr)) (fp : List Addr), DPE (X.blk s H scope (compEnvC scope cl C X.env) fp) K WXn vx te de) (hs : ∀ x, foldedSetIterable iter X.env x = pure x := by intro _; rfl) :
    DPK X K W (.DictComp kx vx [⟨tg, iter, ifs, 0⟩] scope pos) (tDc wi g tt tk te (own.map (·.2))) (dDc td dg dt dk de (own.map (·.2))) :=
  ⟨hi.k, pe_dc hc hN hi.pi ok (fun s H C cl fp => (hg s H C cl fp).pg) (fun s H C cl fp => (ht s H C cl fp).pt) (fun s H C cl fp => (hk s H C cl fp).pe) (fun s H C cl fp => (he s H C cl fp).pe) hs, snd_dc hi.sn (hg {} (fun _ => none) 0 [] []).sn (ht {} (fun _ => none) 0 [] []).sn (hk {} (fun _ => none) 0 [] []).sn (he {} (fun _ => none) 0 [] []).sn⟩
end
theorem dc_ind {α : Type} {g : DG} {tt : DT} {tk tv : DE} {vs : List Nat} {P : List Key × List D → List Sl → Prop} (f : α → D) (J : List α → List Key × List D → List Sl → Prop) (nil : ∀ acc s, J [] acc s → P acc s)
    (step : ∀ x r acc s, J (x :: r) acc s → (∀ acc s, J r acc s → dDcL g tt tk tv vs (r.map f) acc s P) → dDcL g tt tk tv vs (f x :: r.map f) acc s P) : ∀ (xs : List α) (acc : List Key × List D) (s : List Sl), J xs acc s → dDcL g tt tk tv vs (xs.map f) acc s P
  | [], acc, s, h => nil acc s h
  | x :: r, acc, s, h => step x r acc s h fun acc s j => dc_ind f J nil step r acc s j
end Dl
set_option maxRecDepth 100000
set_option maxHeartbeats 1000000
/-! xs.count(k), xs a list of ints and None -/
namespace Us
open PySem PySem.Spec PyProof.Rows L2
def oV : Option Int → V
  | none => .non
  | some i => .int i
/-- what a member that is k is -/
def isK (k : Int) : Value → Bool
  | .int i _ => decide (i = k)
  | _ => false
theorem count_V (k : Int) : ∀ {os : List (Option Int)} {us : List Value}, Vals (os.map oV) us → us.countP (isK k) = os.countP fun o => decide (o = some k)
  | [], us, r => by cases r; rfl
  | o :: os, us, r => by
    rw [List.map_cons] at r
    cases r with
    | cons h t =>
      rw [List.countP_cons, List.countP_cons, count_V k t]
      congr 1
      cases o with
      | none =>
        cases h
        simp [isK]
      | some i =>
        obtain ⟨tk, rfl⟩ := h
        simp [isK]
section
variable {X : Cx}
def rCountN (K : PySem.W.Frag) : V → List V → Hp → VK → Prop := fun x xs H Q => ∃ (p : Addr) (os : List (Option Int)) (k : Int), x = .ref p ∧ xs = [.int k] ∧ SqL K H p (os.map oV) ∧ Q (.int ((os.countP fun o => decide (o = some k)) : Nat)) H
theorem mem_V {os : List (Option Int)} {us : List Value} (r : Vals (os.map oV) us) : ∀ y ∈ us, y = .none ∨ ∃ i t, y = .int i t := by
  induction os generalizing us with
  | nil => cases r; intro y hy; cases hy
  | cons o os ih =>
    rw [List.map_cons] at r
    cases r with
    | cons h t =>
      intro y hy
      rcases List.mem_cons.mp hy with e | hy
      · subst e
        cases o with
        | none => exact .inl h
        | some i => obtain ⟨tk, e⟩ := h; exact .inr ⟨i, tk, e⟩
      · exact ih t y hy
theorem mt_countN : MtR X "list.count" (rCountN X.K) := by
  intro pins s σ H x xs v us Q I rx rs h
  obtain ⟨p, os, k, rfl, rfl, hq, q⟩ := h
  cases rx
  obtain ⟨u, rfl, t, rfl⟩ := vals1 rs
  obtain ⟨its, r, ⟨o, n, ho, hc, hd, hdat⟩, hz⟩ := I.list hq
  obtain ⟨cls, dd, dt, sl⟩ := o
  simp only at hc hd hdat
  subst hc hd hdat
  refine call_meets PySem.F.slot_list_count ⟨_, ho, rfl⟩ PySem.F.entry_list_count (PySem.F.args_list_count_2 _ _) (PySem.SeqAt.list_countAt p its.toArray n none sl (.int k t) (isK k)) ⟨ho, fun y hy => ?_, ?_⟩
  · rcases mem_V r y (by simpa using hy) with rfl | ⟨i, tk, rfl⟩
    · exact PySem.SeqAt.EqAt.none_int k t
    · exact (MeetsSeq.EqGives.int i k tk t).at _ _
  · rw [show its.toArray.toList = its from rfl, count_V k r]
    exact ⟨.int _, H, I.tok _, ⟨_, rfl⟩, q⟩
end
end Us
set_option maxRecDepth 100000
set_option maxHeartbeats 2000000
/-! defs that give a new dict; a dict lent, locked, walked, emptied, compared; xs.count(k) -/
namespace Dl
open PySem PySem.Spec PyProof.Rows L2 Us
/-! ### a new dict is returned -/
abbrev DSpK := List D → (List Key × List D → Prop) → (Exc → Prop) → Prop
def toSpK (K : PySem.W.Frag) (dsp : DSpK) : Sp := fun vs H Q E => ∃ a B ds P Xx, Same B H ∧ HandOk B H a ∧ EmbL K a B ds vs ∧ dsp ds P Xx ∧
  (∀ x, P x → ∀ B' H' v, Stp (Isa a) B H B' H' → HandOk B' H' a → RK K a H B' H' x v → Q v H') ∧
  (∀ x, Xx x → ∀ B' H' cls dd, Stp (Isa a) B H B' H' → HandOk B' H' a → XEmb K a B' H' x cls dd → E cls dd H')
def dCall0K (dsp : DSpK) (t : DA) : Wp (List Key × List D) := fun s E P => t s E fun ds s1 => dsp ds (fun d => P d s1) (fun _ => False)
def dRetK (t : Wp (List Key × List D)) : DS := fun D s => t s D.ex fun d _ => D.rk d
section
variable {X : Cx} {K : PySem.W.Frag} {W : WX} {CX : CXT} {k : Nat} {x : Str} {ps : List Str} {dsp : DSpK} {E : XK} {p pos : Pos} {e : Expr} {es : List Expr} {ta : TA} {td : DA}
theorem ds_retK {te : TE} {t : Wp (List Key × List D)} (he : DPK X K W e te t) : DPS X K W (.Return (some e) pos) (tRet te) (dRetK t) := ⟨he.k, ps_ret he.pe, fun a B0 H0 s σ B H D' D R L ok ht =>
  he.sn a B0 H0 s σ B H _ _ _ R L ht fun d s1 v B1 H1 f ek q => by
    obtain ⟨p, kvs, e, h1, h2, h3, h4, h5⟩ := ek
    exact ok.rk d v B1 H1 f.rel.gr f.rel.hand ⟨p, kvs, e, h1, h2, R.gr.fresh h3, h4, h5⟩ q⟩
/-- an own dict is returned -/
def dOwnK (i : Nat) : Wp (List Key × List D) := fun s _ P => ownKP (gS s i) fun ks ds => P (ks, ds) s
theorem ds_retV {nm : Str} {p1 : Pos} {i : Nat} (ho : PE X (.Name nm p1) (tVar i)) (hK : X.K = K := by rfl) : DPS X K W (.Return (some (.Name nm p1)) pos) (tRet (tVar i)) (dRetK (dOwnK i)) := ⟨hK, ps_ret ho, fun a B0 H0 s σ B H D' D R L ok ht => by
  have hs := R.slot i
  unfold dRetK dOwnK at ht
  cases q : gS s i with
  | ownK ks ds =>
    rw [q] at ht hs
    obtain ⟨p, kvs, e, h1, h2, h3, h4, h5⟩ := hs
    exact ⟨_, join_some e, ok.rk (ks, ds) _ B H R.gr R.hand ⟨p, kvs, rfl, h1, h2, h3, h4, h5⟩ ht⟩
  | _ => rw [q] at ht; exact ht.elim⟩
theorem snd_call0K {E : XK} (h : Snd K W (RA K) ta td) : Snd K W (RK K) (tCall (toSpK K dsp) [] E ta) (dCall0K dsp td) := fun a B0 H0 s σ B H E' P Q R L ht kk =>
  h a B0 H0 s σ B H E' _ _ R L ht fun ds s1 vs B1 H1 f em q => by
    rw [List.append_nil]
    exact ⟨a, B1, ds, _, _, f.rel.gr.bh, f.rel.hand, em, q, fun d pd B2 H2 v g hh e2 => kk d s1 v B2 H2 (f.trans (.call f.rel g hh)) (RK.up f.stp e2) pd, fun _ z => z.elim⟩
theorem dk_call0 (Df : DefOk X.prog X.w X.K X.mg X.base CX0 k x ps (toSpK K dsp)) (hr : Room k X.A) (ha : DPA X K W (e :: es) ta td) (hg : Gl X x := by rfl)
    (hdb : (x == ("__debug__" : Str)) = false := by decide) (he : starEach (e :: es) X.env = (false, eval e X.env) :: starEach es X.env := by rfl) (hpl : (backTo pos (starEach es X.env)).any (·.1) = false := by rfl) :
    DPK X K W (.Call (.Name x p) (e :: es) [] pos) (tCall (toSpK K dsp) [] E0 ta) (dCall0K dsp td) := ⟨ha.k, pe_callD Df hr hg pass0 ha.pe hdb he hpl, snd_call0K ha.sn⟩
theorem dk_callN (Df : DefOk X.prog X.w X.K X.mg X.base (L2.CX X.prog X.w) k x ps (toSpK K dsp)) (hr : Room k X.A) (ha : DPA X K W (e :: es) ta td) (hg : Gl X x := by rfl)
    (hdb : (x == ("__debug__" : Str)) = false := by decide) (he : starEach (e :: es) X.env = (false, eval e X.env) :: starEach es X.env := by rfl) (hpl : (backTo pos (starEach es X.env)).any (·.1) = false := by rfl) :
    DPK X K W (.Call (.Name x p) (e :: es) [] pos) (tCall (toSpK K dsp) [] (fun _ _ _ => False) ta) (dCall0K dsp td) := ⟨ha.k, pe_callD Df hr hg passNo ha.pe hdb he hpl, snd_call0K ha.sn⟩
end
section
variable {P : Program} {w : World} {K : PySem.W.Frag} {mg : Str → Option Value} {base : Heap}
theorem _root_.Us.DefAt.dlK {x : Str} {st : Stmt} {N ps : List Str} {k : Nat} {dsp : DSpK} (F : DefAt K mg x st) (S : FnScope N ps (defScope st))
    (hb : ∀ (kV doc pm : Value) (an : Option Addr) (cdv ct : Value) (us : List Value), us.length = ps.length → bindArgs (PySem.W.fnOf x x (defArgs st) (defBody st) (defScope st) .none kV doc pm an cdv ct) ⟨us, []⟩ = pure (ps.zip us))
    (len : ∀ ds Q E, dsp ds Q E → ds.length = ps.length)
    (body : ∀ (f : Addr) (cdv : Value) (A : Around) (outer : List Env) (s : Shared) (H : Hp) (E : XK), Room k (A.deeper (envOfC x (defScope st) s.heap.objs.size f cdv)) →
      ∃ ts t, DPSs (cxOf CX0 P w K mg base N x (defScope st) f cdv A outer s H E).nox K WXn (defBody st) ts t ∧ ∀ ds Q Xx, dsp ds Q Xx → t { nx := fun _ => False, rt := fun _ => False, rk := Q } (startD N.length ds)) : DefOk P w K mg base CX0 (k + 1) x ps (toSpK K dsp) := by
  refine F.ok S hb (fun vs H Q E h => ?_) fun f cdv A outer s H vs Q E hr h => ?_
  · obtain ⟨a, B, ds, P', Xx, _, _, e, h, _⟩ := h
    rw [e.length]
    exact len _ _ _ h
  · obtain ⟨a, B, ds, P', Xx, hs, hh, e, h, k1, k2⟩ := h
    obtain ⟨ts, t, hd, ht⟩ := body f cdv A outer s H E hr
    refine ⟨ts, PSs.nox hd.ps, ?_⟩
    exact hd.sn a B H _ _ B H { nx := fun _ => False, rt := fun _ => False, rk := P' } _ (start_rel hs hh e) lkn ⟨fun _ _ _ _ _ _ z => z.elim, fun _ _ _ _ _ _ _ z => z.elim, fun _ _ _ _ _ _ z => z.elim, fun _ _ _ _ _ _ z => z.elim, fun x v B' H' g hh' e' z => k1 x z B' H' v g hh' e', fun _ _ _ _ _ _ _ z => z.elim⟩ (ht ds P' Xx h)
theorem _root_.Us.DefAt.dlXK {x : Str} {st : Stmt} {N ps : List Str} {k : Nat} {dsp : DSpK} (F : DefAt K mg x st) (S : FnScope N ps (defScope st))
    (hb : ∀ (kV doc pm : Value) (an : Option Addr) (cdv ct : Value) (us : List Value), us.length = ps.length → bindArgs (PySem.W.fnOf x x (defArgs st) (defBody st) (defScope st) .none kV doc pm an cdv ct) ⟨us, []⟩ = pure (ps.zip us))
    (len : ∀ ds Q E, dsp ds Q E → ds.length = ps.length)
    (body : ∀ (f : Addr) (cdv : Value) (A : Around) (outer : List Env) (s : Shared) (H : Hp) (E : XK), Room k (A.deeper (envOfC x (defScope st) s.heap.objs.size f cdv)) →
      ∃ ts t, DPSs (cxOf (L2.CX P w) P w K mg base N x (defScope st) f cdv A outer s H E) K (fun cls d _ H => E cls d H) (defBody st) ts t ∧ ∀ ds Q Xx, dsp ds Q Xx → t { nx := fun _ => False, rt := fun _ => False, ex := fun x _ => Xx x, rk := Q } (startD N.length ds)) : DefOk P w K mg base (L2.CX P w) (k + 1) x ps (toSpK K dsp) := by
  refine F.ok S hb (fun vs H Q E h => ?_) fun f cdv A outer s H vs Q E hr h => ?_
  · obtain ⟨a, B, ds, P', Xx, _, _, e, h, _⟩ := h
    rw [e.length]
    exact len _ _ _ h
  · obtain ⟨a, B, ds, P', Xx, hs, hh, e, h, k1, k2⟩ := h
    obtain ⟨ts, t, hd, ht⟩ := body f cdv A outer s H E hr
    refine ⟨ts, hd.ps, ?_⟩
    exact hd.sn a B H _ _ B H { nx := fun _ => False, rt := fun _ => False, ex := fun x _ => Xx x, rk := P' } _ (start_rel hs hh e) (fun x s' σ' B' H' cls dd R' ex z => k2 x z B' H' cls dd R'.gr R'.hand ex) ⟨fun _ _ _ _ _ _ z => z.elim, fun _ _ _ _ _ _ _ z => z.elim, fun _ _ _ _ _ _ z => z.elim, fun _ _ _ _ _ _ z => z.elim, fun x v B' H' g hh' e' z => k1 x z B' H' v g hh' e', fun _ _ _ _ _ _ _ z => z.elim⟩ (ht ds P' Xx h)
end
/-! ### a dict that is lent, or locked, for the time of an expression -/
mutual
/-- no dict within -/
def D.nd : D → Bool
  | .dct _ _ => false
  | .tup xs => D.ndL xs
  | .ptup xs => D.ndL xs
  | .lst xs => D.ndL xs
  | .ins _ _ ds => D.ndL ds
  | _ => true
def D.ndL : List D → Bool
  | [] => true
  | d :: ds => d.nd && D.ndL ds
end
section
variable {K : PySem.W.Frag} {a : Addr} {B B' H H' B0 H0 : Hp} {p : Addr} {kvs : List (Key × V)} {s s2 : List Sl} {σ : L2.St}
mutual
theorem Emb.swap (hp : ∀ o, B p = some o → o = .dK kvs) (h : ∀ b, b ≠ p → B' b = B b) : ∀ {d : D} {v : V}, d.nd = true → Emb K a B d v → Emb K a B' d v
  | .non, v, _, e => by cases e.non; exact emb_non
  | .bl b, v, _, e => by cases e.bl; exact emb_bl
  | .int i, v, _, e => by cases e.int; exact emb_int
  | .str z, v, _, e => by cases e.str; exact emb_str
  | .tup xs, v, n, e => by
    obtain ⟨q, us, rfl, hq, r⟩ := e.tup
    unfold D.nd at n
    have hne : q ≠ p := fun z => by have := hp _ (z ▸ hq); cases this
    exact emb_tup ((h q hne).trans hq) (EmbL.swap hp h n r)
  | .ptup xs, v, n, e => by
    obtain ⟨q, us, o, rfl, hq, h1, h2, r⟩ := e.ptup
    unfold D.nd at n
    have hne : q ≠ p := fun z => by have := hp _ (z ▸ hq); cases this
    exact emb_ptup ((h q hne).trans hq) h1 h2 (EmbL.swap hp h n r)
  | .lst xs, v, n, e => by
    obtain ⟨q, us, rfl, hq, r⟩ := e.lst
    unfold D.nd at n
    have hne : q ≠ p := fun z => by have := hp _ (z ▸ hq); cases this
    exact emb_lst ((h q hne).trans hq) (EmbL.swap hp h n r)
  | .dct ks ds, v, n, e => by unfold D.nd at n; cases n
  | .ins c ns ds, v, n, e => by
    obtain ⟨q, dx, fs, us, rfl, hq, ek, r⟩ := e.ins
    unfold D.nd at n
    have hne : q ≠ p := fun z => by have := hp _ (z ▸ hq); cases this
    exact emb_ins ((h q hne).trans hq) ek (EmbL.swap hp h n r)
  | .hand, v, _, e => by cases e.hand; exact emb_hand
theorem EmbL.swap (hp : ∀ o, B p = some o → o = .dK kvs) (h : ∀ b, b ≠ p → B' b = B b) : ∀ {ds : List D} {us : List V}, D.ndL ds = true → EmbL K a B ds us → EmbL K a B' ds us
  | [], us, _, e => by rw [e.of_nil]; exact .nil
  | d :: ds, us, n, e => by
    obtain ⟨u, r, rfl, h1, h2⟩ := e.uncons
    unfold D.ndL at n
    rw [Bool.and_eq_true] at n
    exact .cons (Emb.swap hp h n.1 h1) (EmbL.swap hp h n.2 h2)
end
/-- back from what ran with the dict at p standing otherwise -/
theorem Aft.lent {Bp Hq B1 H1 : Hp} (R : Rel K a B0 H0 s σ B H) (hH : H p = some (.dK kvs)) (hp : ∀ o, B p = some o → o = .dK kvs) (hB : ∀ b, b ≠ p → Bp b = B b) (hHq : ∀ b, b ≠ p → Hq b = H b) (hpa : p ≠ a)
    (st : Stp (Isa a) Bp Hq B1 H1) (hd : HandOk B1 H1 a) (nl : ∀ us, B1 p ≠ some (.lst us)) : Aft K a B0 H0 σ s B H s (fun b => if b = p then B p else B1 b) (upd H1 p (.dK kvs)) := by
  refine Aft.call R ⟨fun b u e => ?_, fun b u e => ?_, fun b o w e => ?_, fun b e => ?_, fun b w e => ?_⟩ ?_
  · show (if b = p then _ else _) = _
    by_cases hb : b = p
    · rw [if_pos hb, ← hb]; exact e
    · rw [if_neg hb]; exact st.bb _ _ ((hB b hb).trans e)
  · have e : (if b = p then B p else B1 b) = some u := e
    by_cases hb : b = p
    · rw [if_pos hb] at e
      rw [hb, upd_same, hp _ e]
    · rw [if_neg hb] at e
      rw [upd_ne hb]; exact st.bh _ _ e
  · by_cases hb : b = p
    · rw [hb] at e ⊢
      rw [upd_same]; exact hH.symm.trans e
    · rw [upd_ne hb]; exact st.keep _ _ w ((hHq b hb).trans e)
  · by_cases hb : b = p
    · rw [hb, upd_same]; exact fun z => nomatch z
    · rw [upd_ne hb]; exact st.there b (by rw [hHq b hb]; exact e)
  · show (if b = p then _ else _) = _
    by_cases hb : b = p
    · rw [if_pos hb, hb]
    · rw [if_neg hb]; exact (st.old b w (by rw [hHq b hb]; exact e)).trans (hB b hb)
  · obtain ⟨h1, c, ns, i, big, seed, n, h2, h3, r⟩ := hd
    have hc : c ≠ p := fun z => nl _ (z ▸ h3)
    exact ⟨(if_neg (Ne.symm hpa)).trans h1, c, ns, i, big, seed, n, by rw [upd_ne (Ne.symm hpa)]; exact h2, (if_neg hc).trans h3, r⟩
/-- what a slot is while the dict is locked -/
def Lk1 (x y : Sl) : Prop := y = .no ∨ (∃ d, x = .val d ∧ d.nd = true ∧ y = .val d) ∨ (∃ ks ds, x = .val (.dct ks ds) ∧ D.ndL ds = true ∧ y = .rd ks ds)
def LkR (i : Nat) (s s2 : List Sl) : Prop := s2.length = s.length ∧ ∀ j, j ≠ i → Lk1 (gS s j) (gS s2 j)
def lockP (sl : Sl) (P : List Key → List D → Prop) : Prop := match sl with
  | .val (.dct ks ds) => P ks ds
  | .ownK ks ds => P ks ds
  | _ => False
theorem lockP_at {sl : Sl} {o : Option V} {P : List Key → List D → Prop} (hs : Same B H) (r : SlR K a B H H0 sl o) (h : lockP sl P) : ∃ p kvs ks ds, o = some (.ref p) ∧ H p = some (.dK kvs) ∧ (∀ o, B p = some o → o = .dK kvs) ∧ kvs.map (·.1) = ks ∧ EmbL K a B ds (kvs.map (·.2)) ∧ P ks ds := by
  cases sl with
  | val d =>
    cases d with
    | dct ks ds =>
      obtain ⟨v, e, em⟩ := r
      obtain ⟨p, kvs, rfl, hp, ek, el⟩ := Emb.dct em
      exact ⟨p, kvs, ks, ds, e, hs _ _ hp, fun o z => (Option.some.inj (hp.symm.trans z)).symm, ek, el, h⟩
    | _ => exact h.elim
  | ownK ks ds =>
    obtain ⟨p, kvs, e, h1, h2, _, h4, h5⟩ := r
    exact ⟨p, kvs, ks, ds, e, h1, (fun o z => by rw [h2] at z; cases z), h4, h5, h⟩
  | _ => exact h.elim
theorem HandOk.apart {o : HO} (h : HandOk B H a) (hH : H p = some (.dK kvs)) (hp : ∀ o, B p = some o → o = .dK kvs) : p ≠ a ∧ HandOk (upd B p o) (upd H p o) a := by
  obtain ⟨h1, c, ns, i, big, seed, n, h2, h3, r⟩ := h
  have hpa : p ≠ a := fun z => by rw [z, h2] at hH; cases hH
  have hc : c ≠ p := fun z => by have := hp _ (z ▸ h3); cases this
  exact ⟨hpa, (upd_ne (Ne.symm hpa)).trans h1, c, ns, i, big, seed, n, (upd_ne (Ne.symm hpa)).trans h2, (upd_ne hc).trans h3, r⟩
theorem Same.upd2 {o : HO} (s : Same B H) : Same (upd B p o) (upd H p o) := Same.both s
def dLock (i : Nat) (t : DE) : DE := fun s _ P => lockP (gS s i) fun ks ds => D.ndL ds = true ∧ ∃ s2, LkR i s s2 ∧ gS s2 i = .lck ks ds ∧ t s2 EXn fun d s' => s' = s2 ∧ flatD d = true ∧ P d s
theorem emb_flat {d : D} {v : V} (f : flatD d = true) (e : Emb K a B d v) : Emb K a B' d v := by
  cases d with
  | non => cases e.non; exact emb_non
  | bl b => cases e.bl; exact emb_bl
  | int i => cases e.int; exact emb_int
  | str z => cases e.str; exact emb_str
  | _ => cases f
theorem snd_lock {W : WX} {te : TE} {t : DE} {i : Nat} (h : Snd K W (RE K) te t) : Snd K W (RE K) (tLockE te) (dLock i t) := fun a B0 H0 s σ B H E P Q R L ht k => by
  obtain ⟨p, kvs, ks, ds, eo, hH, hp, ek, el, hnd, s2, ⟨hlen, hl⟩, hi, ht⟩ := lockP_at R.gr.bh (R.slot i) ht
  refine ⟨p, _, hH, True.intro, fun od => ?_⟩
  obtain ⟨hpa, hd2⟩ := HandOk.apart (o := .frz od (.dK kvs)) R.hand hH hp
  have sw : ∀ b, b ≠ p → upd B p (.frz od (.dK kvs)) b = B b := fun b hb => upd_ne hb
  have no : ∀ j, (gS s2 j).isOwn = false := fun j => by
    by_cases hj : j = i
    · rw [hj, hi]; rfl
    · rcases hl j hj with z | ⟨d, _, _, z⟩ | ⟨ks, ds, _, _, z⟩ <;> rw [z] <;> rfl
  have R2 : Rel K a (upd B p (.frz od (.dK kvs))) (upd H p (.frz od (.dK kvs))) s2 σ (upd B p (.frz od (.dK kvs))) (upd H p (.frz od (.dK kvs))) := by
    refine ⟨Stp.refl (Same.both R.gr.bh), hd2.ne, hd2, hlen.trans R.len, fun j => ?_, fun j j' q _ hj => ?_⟩
    · by_cases hj : j = i
      · rw [hj, hi]
        exact ⟨p, kvs, od, eo, upd_same, ek, el.swap hp sw hnd⟩
      · have hs := R.slot j
        rcases hl j hj with z | ⟨d, x, nd, z⟩ | ⟨ks', ds', x, nd, z⟩
        · rw [z]; exact True.intro
        · rw [x] at hs
          rw [z]
          obtain ⟨v, e, em⟩ := hs
          exact ⟨v, e, em.swap hp sw nd⟩
        · rw [x] at hs
          rw [z]
          obtain ⟨v, e, em⟩ := hs
          obtain ⟨q, kvs', rfl, hq, ek', el'⟩ := em.dct
          refine ⟨q, kvs', e, ?_, ek', el'.swap hp sw nd⟩
          by_cases hqp : q = p
          · have := hp _ (hqp ▸ hq)
            cases this
            exact .inr ⟨od, by rw [hqp]; exact upd_same⟩
          · exact .inl ((sw q hqp).trans hq)
    · have := adr_own hj
      rw [no j] at this
      cases this
  refine h a _ _ s2 σ _ _ EXn _ _ R2 lkn ht fun x s' y B' H' f em q => ?_
  obtain ⟨rfl, fl, q⟩ := q
  have st : Stp (Isa a) (upd B p (.frz od (.dK kvs))) (upd H p (.frz od (.dK kvs))) B' H' := f.stp.mono fun b _ w => w.elim id fun ⟨j, hj⟩ => by
    have := adr_own hj
    rw [no j] at this
    cases this
  have hB' : B' p = some (.frz od (.dK kvs)) := st.bb _ _ upd_same
  refine ⟨st.bh _ _ hB', ?_⟩
  exact k x s y _ _ (Aft.lent R hH hp sw (fun b hb => upd_ne hb) hpa st f.rel.hand fun us z => by rw [hB'] at z; cases z) (emb_flat fl em) q
theorem de_lock {X : Cx} {W : WX} {e : Expr} {te : TE} {t : DE} (i : Nat) (h : DPE X K W e te t) : DPE X K W e (tLockE te) (dLock i t) := ⟨h.k, pe_lock h.pe, snd_lock h.sn⟩
/-- an own dict is lent -/
def LnR (i : Nat) (s s2 : List Sl) : Prop := s2.length = s.length ∧ ∀ j, j ≠ i → (gS s2 j = .no ∨ ∃ d, gS s j = .val d ∧ gS s2 j = .val d)
def dLend (i : Nat) (t : DE) : DE := fun s _ P => ownKP (gS s i) fun ks ds => ∃ s2, LnR i s s2 ∧ gS s2 i = .val (.dct ks ds) ∧ t s2 EXn fun d s' => s' = s2 ∧ flatD d = true ∧ P d s
theorem snd_lend {W : WX} {te : TE} {t : DE} {i : Nat} (h : Snd K W (RE K) te t) : Snd K W (RE K) te (dLend i t) := fun a B0 H0 s σ B H E P Q R L ht k => by
  have hsl := R.slot i
  unfold dLend at ht
  cases qs : gS s i with
  | ownK ks ds =>
    rw [qs] at hsl ht
    obtain ⟨s2, ⟨hlen, hl⟩, hi, ht⟩ := ht
    obtain ⟨p, kvs, eo, hH, hBp, _, ek, el⟩ := hsl
    have hp : ∀ o, B p = some o → o = .dK kvs := fun o z => by rw [hBp] at z; cases z
    obtain ⟨hpa, hd2⟩ := HandOk.apart (o := .dK kvs) R.hand hH hp
    have eH : upd H p (.dK kvs) = H := funext fun b => by
      by_cases hb : b = p
      · rw [hb, upd_same, hH]
      · exact upd_ne hb
    rw [eH] at hd2
    have sm : Same (upd B p (.dK kvs)) H := by
      have := Same.both (p := p) (o := .dK kvs) R.gr.bh
      rw [eH] at this
      exact this
    have up : Same B (upd B p (.dK kvs)) := Same.new hBp
    have no : ∀ j, (gS s2 j).isOwn = false := fun j => by
      by_cases hj : j = i
      · rw [hj, hi]; rfl
      · rcases hl j hj with z | ⟨d, _, z⟩ <;> rw [z] <;> rfl
    have R2 : Rel K a (upd B p (.dK kvs)) H s2 σ (upd B p (.dK kvs)) H := by
      refine ⟨Stp.refl sm, hd2.ne, hd2, hlen.trans R.len, fun j => ?_, fun j j' q _ hj => ?_⟩
      · by_cases hj : j = i
        · rw [hj, hi]
          exact ⟨_, eo, emb_dct upd_same ek (el.mono up)⟩
        · have hs := R.slot j
          rcases hl j hj with z | ⟨d, x, z⟩
          · rw [z]; exact True.intro
          · rw [x] at hs
            rw [z]
            obtain ⟨v, e, em⟩ := hs
            exact ⟨v, e, em.mono up⟩
      · have := adr_own hj
        rw [no j] at this
        cases this
    refine h a _ _ s2 σ _ _ EXn _ _ R2 lkn ht fun x s' y B' H' f em q => ?_
    obtain ⟨rfl, fl, q⟩ := q
    have st : Stp (Isa a) (upd B p (.dK kvs)) H B' H' := f.stp.mono fun b _ w => w.elim id fun ⟨j, hj⟩ => by
      have := adr_own hj
      rw [no j] at this
      cases this
    have hB' : B' p = some (.dK kvs) := st.bb _ _ upd_same
    have eH' : upd H' p (.dK kvs) = H' := funext fun b => by
      by_cases hb : b = p
      · rw [hb, upd_same, st.bh _ _ hB']
      · exact upd_ne hb
    have A := Aft.lent R hH hp (Bp := upd B p (.dK kvs)) (Hq := H) (fun b hb => upd_ne hb) (fun b hb => rfl) hpa st f.rel.hand fun us z => by rw [hB'] at z; cases z
    rw [eH'] at A
    exact k x s y _ _ A (emb_flat fl em) q
  | _ => rw [qs] at ht; exact ht.elim
theorem de_lend {X : Cx} {W : WX} {e : Expr} {te : TE} {t : DE} (i : Nat) (h : DPE X K W e te t) : DPE X K W e te (dLend i t) := ⟨h.k, h.pe, snd_lend h.sn⟩
end
/-! ### the keys of a locked dict -/
def kD : Key → D
  | .inl i => .int i
  | .inr z => .str z
theorem emb_key {K : PySem.W.Frag} {a : Addr} {B : Hp} (k : Key) : Emb K a B (kD k) (kV k) := by
  cases k with
  | inl i => exact emb_int
  | inr z => exact emb_str
theorem keyD_kD (k : Key) : keyD (kD k) = some k := by cases k <;> rfl
theorem jok_keys {K : PySem.W.Frag} {a : Addr} {B : Hp} {p : Addr} {od : Obj} {kvs : List (Key × V)} (h : B p = some (.frz od (.dK kvs))) : JOk K a (Itk p od kvs) ((kvs.map (·.1)).map kD) B := by
  have le : ((kvs.map (·.1)).map kD).length = kvs.length := by rw [List.length_map, List.length_map]
  refine ⟨fun i B2 H2 s1 s2 hi => ⟨s2 _ _ (s1 _ _ h), by rw [le] at hi; exact hi⟩, fun i B2 H2 x H3 s1 s2 hi y => ?_, fun i B2 H2 s1 s2 hi => ⟨s2 _ _ (s1 _ _ h), by rw [le] at hi; exact Nat.le_of_eq hi.symm⟩⟩
  obtain ⟨rfl, k, v, hk, rfl⟩ := y
  exact ⟨kD k, by rw [List.getElem?_map, List.getElem?_map, hk]; rfl, B2, Stp.refl s2, emb_key k⟩
def lckP (sl : Sl) (P : List Key → Prop) : Prop := match sl with
  | .lck ks _ => P ks
  | _ => False
def dKeys (i : Nat) : DA := fun s _ P => lckP (gS s i) fun ks => P (ks.map kD) s
theorem di_keys {X : Cx} {K : PySem.W.Frag} {W : WX} {tg : Expr} {nm : Str} {p1 : Pos} {i : Nat} (ho : PE X (.Name nm p1) (tVar i)) (hK : X.K = K := by rfl) : DPI X K W tg (.Name nm p1) (iKeys (tVar i)) (dKeys i) := ⟨hK, pi_keys ho, fun a B0 H0 s σ B H E P Q R L ht k => by
  have hs := R.slot i
  unfold dKeys at ht
  cases q : gS s i with
  | lck ks ds =>
    rw [q] at hs ht
    obtain ⟨p, kvs, od, e, h1, h2, h3⟩ := hs
    refine ⟨_, join_some e, p, od, rfl, .inl ⟨kvs, R.gr.bh _ _ h1, ?_⟩⟩
    have j := jok_keys (K := K) (a := a) h1
    rw [h2] at j
    exact k _ s _ B H (.refl R) j ht
  | _ => rw [q] at ht; exact ht.elim⟩
/-! ### d.clear() -/
def dClear (i : Nat) : DE := fun s _ P => ownKP (gS s i) fun _ _ => P .non (s.set i (.ownK [] []))
theorem de_clear {X : Cx} {K : PySem.W.Frag} {W : WX} {x : Str} {p1 p2 cpos : Pos} {i : Nat} (ho : PE X (.Name x p1) (tVar i)) (hK : X.K = K := by rfl) (hbase : attributeBase (.Name x p1) "clear" X.env (eval (.Name x p1) X.env) = eval (.Name x p1) X.env := by rfl) (hline : (p2.endLine == cpos.line) = true := by rfl) :
    DPE X K W (.Call (.Attribute (.Name x p1) "clear" p2) [] [] cpos) (tBM0 K "dict" rDClear (tVar i)) (dClear i) :=
  ⟨hK, by subst hK; exact pe_dclear ho hbase hline, fun a B0 H0 s σ B H E P Q R L ht k => by
    have hs := R.slot i
    unfold dClear at ht
    cases q : gS s i with
    | ownK ks ds =>
      rw [q] at hs ht
      obtain ⟨p, kvs, e, h1, h2, h3, h4, h5⟩ := hs
      refine ⟨_, join_some e, .inr (.inr (.inl ⟨rfl, .inl ⟨kvs, h1⟩⟩)), p, kvs, rfl, rfl, h1, ?_⟩
      exact k .non _ _ B _ (.put (sl := .ownK [] []) R (by rw [q]; rfl) (join_some e) (Stp.set R.gr.bh h2 rfl) ⟨p, [], rfl, upd_same, h2, h3, rfl, .nil⟩) emb_non ht
    | _ => rw [q] at ht; exact ht.elim⟩
/-! ### == of dicts of flat things that are equal -/
def eqKD : D → D → (D → Prop) → Prop := fun x y P => match x, y with
  | .dct ks ds, .dct ls es => (ks.length = ls.length ∧ ds.all flatD = true ∧ es.all flatD = true ∧ ∀ (j : Nat) (k : Key) (d : D), ks[j]? = some k → ds[j]? = some d → lkD ls es k = some d) ∧ P (.bl true)
  | _, _ => False
theorem flat_eq {K : PySem.W.Frag} {a : Addr} {B B' : Hp} {d : D} {v w : V} (f : flatD d = true) (h : Emb K a B d v) (h' : Emb K a B' d w) : w = v ∧ flatB v = true := by
  cases d with
  | non => cases h.non; cases h'.non; exact ⟨rfl, rfl⟩
  | bl b => cases h.bl; cases h'.bl; exact ⟨rfl, rfl⟩
  | int i => cases h.int; cases h'.int; exact ⟨rfl, rfl⟩
  | str z => cases h.str; cases h'.str; exact ⟨rfl, rfl⟩
  | _ => cases f
theorem l_eqKD {K : PySem.W.Frag} : LOp K rEqDA eqKD := fun a B H x y u v P Q s ex ey r k => by
  unfold eqKD at r
  split at r
  · rename_i ks ds ls es
    obtain ⟨⟨hl, f1, f2, hm⟩, r⟩ := r
    obtain ⟨p, kvs, rfl, hp, ek, el⟩ := Emb.dct ex
    obtain ⟨q, kvs', rfl, hq, ek', el'⟩ := Emb.dct ey
    refine ⟨p, q, kvs, kvs', rfl, rfl, s _ _ hp, s _ _ hq, ?_, fun kv hkv => ?_, k _ B H _ (Stp.refl s) emb_bl r⟩
    · have e1 := congrArg List.length ek
      have e2 := congrArg List.length ek'
      rw [List.length_map] at e1 e2
      omega
    · obtain ⟨j, hj⟩ := List.getElem?_of_mem hkv
      have hjl : j < ds.length := by
        have := (List.getElem?_eq_some_iff.mp hj).1
        have e1 := el.length
        rw [List.length_map] at e1
        omega
      have hd := List.getElem?_eq_getElem hjl
      have hk : ks[j]? = some kv.1 := by rw [← ek, List.getElem?_map, hj]; rfl
      have lk := hm j kv.1 _ hk hd
      have fd : flatD ds[j] = true := List.all_eq_true.mp f1 _ (List.getElem_mem hjl)
      obtain ⟨w, hw, ew⟩ := el.get hd
      have hw' : w = kv.2 := by
        rw [List.getElem?_map, hj] at hw
        exact (Option.some.inj hw).symm
      subst hw'
      have lv := lk_V el' kv.1
      rw [ek', lk] at lv
      obtain ⟨z, hz, ez⟩ := lv
      obtain ⟨e1, e2⟩ := flat_eq fd ew ez
      rw [hz, e1]
      exact ⟨rfl, e2⟩
  · exact r.elim
/-! ### xs.count(k), xs a slot -/
def onsD : List D → Option (List (Option Int))
  | [] => some []
  | .non :: r => (onsD r).map (none :: ·)
  | .int z :: r => (onsD r).map (some z :: ·)
  | _ :: _ => none
theorem ons_V {K : PySem.W.Frag} {a : Addr} {B : Hp} : ∀ {ds : List D} {us : List V} {zs : List (Option Int)}, EmbL K a B ds us → onsD ds = some zs → us = zs.map oV
  | [], us, zs, h, e => by cases e; exact h.of_nil
  | x :: r, us, zs, h, e => by
    obtain ⟨u, us, rfl, h1, h2⟩ := h.uncons
    unfold onsD at e
    split at e
    · rename_i hh; cases hh
    · rename_i r' heq
      cases heq
      cases Emb.non h1
      cases q : onsD r with
      | none => rw [q] at e; cases e
      | some ys => rw [q] at e; cases e; rw [ons_V h2 q]; rfl
    · rename_i z r' heq
      cases heq
      cases Emb.int h1
      cases q : onsD r with
      | none => rw [q] at e; cases e
      | some ys => rw [q] at e; cases e; rw [ons_V h2 q]; rfl
    · cases e
def cntP (sl : Sl) (P : List D → Prop) : Prop := match sl with
  | .val (.lst xs) => P xs
  | _ => False
def dCount (i : Nat) (t : DE) : DE := fun s E P => cntP (gS s i) fun _ => t s E fun d s1 => cntP (gS s1 i) fun xs => match d, onsD xs with
  | .int k, some os => P (.int ((os.countP fun o => decide (o = some k)) : Nat)) s1
  | _, _ => False
theorem cntP_at {K : PySem.W.Frag} {a : Addr} {B H H0 : Hp} {sl : Sl} {o : Option V} {P : List D → Prop} (r : SlR K a B H H0 sl o) (h : cntP sl P) : ∃ p us xs, o = some (.ref p) ∧ B p = some (.lst us) ∧ EmbL K a B xs us ∧ P xs := by
  cases sl with
  | val d =>
    cases d with
    | lst xs =>
      obtain ⟨v, e, em⟩ := r
      obtain ⟨p, us, rfl, hp, el⟩ := Emb.lst em
      exact ⟨p, us, xs, e, hp, el, h⟩
    | _ => exact h.elim
  | _ => exact h.elim
theorem de_count {X : Cx} {K : PySem.W.Frag} {W : WX} {x : Str} {p1 p2 cpos : Pos} {i : Nat} {e : Expr} {te : TE} {t : DE} (ho : PE X (.Name x p1) (tVar i)) (h : DPE X K W e te t) (hs : starEach [e] X.env = (false, eval e X.env) :: starEach [] X.env := by rfl)
    (hbase : attributeBase (.Name x p1) "count" X.env (eval (.Name x p1) X.env) = eval (.Name x p1) X.env := by rfl)
    (hfew : ((backTo cpos (starEach [e] X.env)).all (fun x => !x.1) && (backToKw cpos (keywordEach [] X.env)).all (fun x => x.1.isSome)
      && decide ([e].length + ([] : List Keyword).length + (if ([] : List Keyword).isEmpty then 0 else 1) < 30)) = true := by rfl) (hline : (p2.endLine == cpos.line) = true := by rfl) :
    DPE X K W (.Call (.Attribute (.Name x p1) "count" p2) [e] [] cpos) (tBM K "list" (rCountN K) (tVar i) (tCons te tNil)) (dCount i t) :=
  ⟨h.k, by have hk := h.k; subst hk; exact pe_bm PySem.F.plainAttrs_list PySem.F.slot_list_count PySem.F.type_list_count mt_countN ho (pa_cons h.pe pa_nil hs) hbase hfew (hs := hs) (hline := hline), fun a B0 H0 s σ B H E P Q R L ht k => by
    obtain ⟨p, us, xs, eo, hp, em, ht⟩ := cntP_at (R.slot i) ht
    refine ⟨_, join_some eo, tyL (R.gr.bh _ _ hp), h.sn a B0 H0 s σ B H E _ _ R L ht fun d s1 v B1 H1 f ev q => ?_⟩
    obtain ⟨p', us', xs', eo', hp', em', q⟩ := cntP_at (f.rel.slot i) q
    rw [eo] at eo'
    cases eo'
    split at q
    · rename_i kk os ho2 _
      cases Emb.int ev
      refine ⟨p, os, kk, rfl, rfl, SqL.of (by rw [← ons_V em' ho2]; exact f.rel.gr.bh _ _ hp'), k _ s1 _ B1 H1 f emb_int q⟩
    · exact q.elim⟩
end Dl
set_option maxRecDepth 100000
set_option maxHeartbeats 2000000
/-! name = {..: .. for ..} -/
namespace Us
open PySem PySem.Spec PyProof.Rows L2
section
variable {X : Cx}
theorem ps_setDc {i : Nat} {y : Str} {py : Pos} {kx vx tg iter : Expr} {ifs : List Expr} {scope : Scope} {own : List (Str × Nat)} {pos spos : Pos} {wi : TI} {g : TG} {tt : TT} {tk tv : TE} (hc : X.calm = true) (hN : X.N.Nodup) (hy : X.N[i]? = some y) (hyl : X.env.scope.names.lookup y = some .local)
    (hsw : swapsWith (.DictComp kx vx [⟨tg, iter, ifs, 0⟩] scope pos) (some (.Name y py)) spos.line X.env = pure true) (hi : PI X tg iter wi) (ok : BlkOk X.N X.env.scope scope own)
    (hg : ∀ (s : Shared) (H : Hp) (C : Addr) (cl : List (Str × Addr)) (fp : List Addr), PG (X.blk s H scope (compEnvC scope cl C X.env) fp) tg g) (ht : ∀ (s : Shared) (H : Hp) (C : Addr) (cl : List (Str × Addr)) (fp : List Addr), PTs (X.blk s H scope (compEnvC scope cl C X.env) fp) ifs tt)
    (hk : ∀ (s : Shared) (H : Hp) (C : Addr) (cl : List (Str × Addr)) (fp : List Addr), PE (X.blk s H scope (compEnvC scope cl C X.env) fp) kx tk)
    (he : ∀ (s : Shared) (H : Hp) (C : Addr) (cl : List (Str × Addr)) (fp : List Addr), PE (X.blk s H scope (compEnvC scope cl C X.env) fp) vx tv) (hs : ∀ x, foldedSetIterable iter X.env x = pure x := by intro _; rfl) :
    PS X (.Assign [.Name y py] (.DictComp kx vx [⟨tg, iter, ifs, 0⟩] scope pos) spos) (tAsg (tDc wi g tt tk tv (own.map (·.2))) (gName i)) := by
  refine ⟨fun pins s σ H D I h => ?_⟩
  rw [exec_Assign_Name_used _ _ _ _ hsw]
  refine wpAny_bind (wpAny_standAt (wpAny_bind ?_))
  show wpAny _ X.A (do let _ ← comprehension (.DictComp kx vx [⟨tg, iter, ifs, 0⟩] scope pos) scope X.env (firstIterPos [⟨tg, iter, ifs, 0⟩] pos) newDict false (eval iter X.env) (some (assign (.Name y py) X.env))) _ _ s
  have h : tDc wi g tt tk tv (own.map (·.2)) σ H (fun x H1 => gName i x σ H1 D.nx) := h
  refine wpAny_bind (thn (dc_core (Qf := fun _ s' => SP X pins D .next s') hc hN I hi ok hg ht hk he hs h fun L C s' m H' I' q hn f => ?_) fun _ s' hq => wpAny_pure (wpAny_pure hq))
  show wpAny _ _ (assign (.Name y py) X.env (.ref L)) _ _ _
  refine wpAny_assign_Name (store_ok2 (v := V.ref L) I' hN hy (.inl hyl) rfl (fun s2 I2 ⟨a, sb, ha⟩ => ?_) (.inr hyl))
  obtain ⟨f0, f1, f2, f3, f4, f5⟩ := f
  have haC : C ≠ a := by
    rcases ha with z | z
    · rw [z]; exact f1
    · exact fun e => f4 y a z e.symm
  refine ⟨m, hn.sameBut sb haC, fun h3 sb3 => ?_⟩
  exact ⟨_, H', I2.turned (t' := s2.toks) (fun b o hb e => (sb3.2 b hb).trans e) f0 f1 f3 f4 f5, q⟩
theorem sw_trueD {kx vx : Expr} {gs : List Comprehension} {scope : Scope} {pos py : Pos} {y : Str} {l : Nat} {env : Env} (hk : env.scope.kind = .function) (hy : env.scope.names.lookup y = some .local) (hl : (py.line == pos.line) = true)
    (ha : (scope.names.any fun (n, k) => n == y && (k == .local || k == .cell)) = false) : swapsWith (.DictComp kx vx gs scope pos) (some (.Name y py)) l env = pure true := by
  have ky : env.kindOf y = some .local := hy
  have hb : env.blockKind = .function := by unfold Env.blockKind; rw [hk]; rfl
  unfold swapsWith
  simp only [hb, ky, ha, Expr.pos, hl]
  rfl
end
end Us
namespace Dl
open PySem PySem.Spec PyProof.Rows L2 Us
theorem ds_setDc {X : Cx} {K : PySem.W.Frag} {W : WX} {i : Nat} {y : Str} {py : Pos} {kx vx tg iter : Expr} {ifs : List Expr} {scope : Scope} {own : List (Str × Nat)} {pos spos : Pos} {wi : TI} {td : DA} {g : TG} {dg : DG} {tt : TT} {dt : DT} {tk te : TE} {dk de : DE} (hc : X.calm = true) (hN : X.N.Nodup) (hy : X.N[i]? = some y) (hyl : X.env.scope.names.lookup y = some .local)
    (hsw : swapsWith (.DictComp kx vx [⟨tg, iter, ifs, 0⟩] scope pos) (some (.Name y py)) spos.line X.env = pure true) (hi : DPI X K W tg iter wi td) (ok : BlkOk X.N X.env.scope scope own)
    (hg : ∀ (s : Shared) (H : Hp) (C : Addr) (cl : List (Str × Addr)) (fp : List Addr), DPG (X.blk s H scope (compEnvC scope cl C X.env) fp) K (own.map (·.2)) tg g dg) (ht : ∀ (s : Shared) (H : Hp) (C : Addr) (cl : List (Str × Addr)) (fp : List Addr), DPTs (X.blk s H scope (compEnvC scope cl C X.env) fp) K WXn ifs tt dt)
    (hk : ∀ (s : Shared) (H : Hp) (C : Addr) (cl : List (Str × Addr)) (fp : List Addr), DPE (X.blk s H scope (compEnvC scope cl C X.env) fp) K WXn kx tk dk) (he : ∀ (s : Shared) (H : Hp) (C : Addr) (cl : List (Str × Addr)) (fp : List Addr), DPE (X.blk s H scope (compEnvC scope cl C X.env) fp) K WXn vx te de) (hs : ∀ x, foldedSetIterable iter X.env x = pure x := by intro _; rfl) :
    DPS X K W (.Assign [.Name y py] (.DictComp kx vx [⟨tg, iter, ifs, 0⟩] scope pos) spos) (tAsg (tDc wi g tt tk te (own.map (·.2))) (gName i)) (dSetK i (dDc td dg dt dk de (own.map (·.2)))) :=
  ⟨hi.k, ps_setDc hc hN hy hyl hsw hi.pi ok (fun s H C cl fp => (hg s H C cl fp).pg) (fun s H C cl fp => (ht s H C cl fp).pt) (fun s H C cl fp => (hk s H C cl fp).pe) (fun s H C cl fp => (he s H C cl fp).pe) hs, snd_setK (snd_dc hi.sn (hg {} (fun _ => none) 0 [] []).sn (ht {} (fun _ => none) 0 [] []).sn (hk {} (fun _ => none) 0 [] []).sn (he {} (fun _ => none) 0 [] []).sn)⟩
/-! ### dicts whose values a function tells -/
theorem kpos_has {ks : List Key} {k : Key} : (kpos ks k).isSome = true ↔ k ∈ ks := by
  cases q : kpos ks k with
  | some j => exact ⟨fun _ => List.mem_of_getElem? (kpos_lt q), fun _ => rfl⟩
  | none => exact ⟨fun h => (by cases h), fun h => absurd h (kpos_none q)⟩
instance decMemKey (k : Key) (ks : List Key) : Decidable (k ∈ ks) := decidable_of_iff _ kpos_has
def fD (ks : List Key) (f : Key → D) : List D := ks.map f
theorem lk_fD (f : Key → D) : ∀ (ks : List Key) (k : Key), lkD ks (fD ks f) k = if k ∈ ks then some (f k) else none
  | [], k => by rw [if_neg (fun z => nomatch z)]; rfl
  | x :: r, k => by
    show lkD (x :: r) (f x :: fD r f) k = _
    by_cases e : x = k
    · subst e; rw [lkD_pos, if_pos (List.mem_cons_self ..)]
    · rw [lkD_neg e, lk_fD f r k]
      by_cases m : k ∈ r
      · rw [if_pos m, if_pos (List.mem_cons_of_mem _ m)]
      · rw [if_neg m, if_neg (fun z => (List.mem_cons.mp z).elim (fun z => e z.symm) m)]
def upF (f : Key → D) (k : Key) (v : D) : Key → D := fun x => if x = k then v else f x
theorem putD_fD (f : Key → D) (k : Key) (v : D) : ∀ ks : List Key, putD ks (fD ks f) k v = fD ks (upF f k v)
  | [] => rfl
  | x :: r => by
    show putD (x :: r) (f x :: fD r f) k v = (upF f k v x) :: fD r (upF f k v)
    unfold putD
    rw [putD_fD f k v r]
    rfl
theorem fD_congr {f g : Key → D} {ks : List Key} (h : ∀ k ∈ ks, f k = g k) : fD ks f = fD ks g := List.map_congr_left h
/-- a store: the keys, the values -/
theorem put_fD {f : Key → D} {ks : List Key} {k : Key} {v : D} : putKD ks (fD ks f) k v = (if k ∈ ks then ks else ks ++ [k], fD (if k ∈ ks then ks else ks ++ [k]) (upF f k v)) := by
  unfold putKD
  cases q : kpos ks k with
  | some j =>
    have hm : k ∈ ks := List.mem_of_getElem? (kpos_lt q)
    rw [if_pos hm, ← putD_fD]
  | none =>
    have hm := kpos_none q
    rw [if_neg hm]
    show (ks ++ [k], fD ks f ++ [v]) = _
    congr 1
    unfold fD
    rw [List.map_append, List.map_cons, List.map_nil]
    congr 1
    · exact List.map_congr_left fun x hx => by
        unfold upF
        rw [if_neg fun (e : x = k) => hm (by rw [← e]; exact hx)]
    · unfold upF; rw [if_pos rfl]
theorem fD_len (ks : List Key) (f : Key → D) : (fD ks f).length = ks.length := List.length_map ..
end Dl
set_option maxRecDepth 100000
set_option maxHeartbeats 2000000
/-! loops and listings by the place -/
namespace Dl
open PySem PySem.Spec PyProof.Rows L2 Us
theorem drop_at {α : Type} {xs : List α} {i : Nat} (h : i < xs.length) : ∃ d, xs[i]? = some d ∧ xs.drop i = d :: xs.drop (i + 1) := ⟨xs[i], List.getElem?_eq_getElem h, List.drop_eq_getElem_cons h⟩
theorem for_at {g : DG} {tb : DS} {D : EndsD} (xs : List Dl.D) (J : Nat → List Sl → Prop) (nil : ∀ s, J xs.length s → D.nx s)
    (step : ∀ i d r s, xs[i]? = some d → J i s → (∀ s, J (i + 1) s → dForL g tb D r s) → dForL g tb D (d :: r) s) (s : List Sl) (h : J 0 s) : dForL g tb D xs s := by
  have go : ∀ n i s, i + n = xs.length → J i s → dForL g tb D (xs.drop i) s := fun n => by
    induction n with
    | zero =>
      intro i s e j
      have : i = xs.length := by omega
      subst this
      rw [List.drop_eq_nil_of_le (Nat.le_refl _)]
      exact nil s j
    | succ n ih =>
      intro i s e j
      obtain ⟨d, hd, ed⟩ := drop_at (xs := xs) (i := i) (by omega)
      rw [ed]
      exact step i d _ s hd j fun s j => ih (i + 1) s (by omega) j
  exact go xs.length 0 s (by omega) h
theorem lc_at {g : DG} {tt : DT} {te : DE} {vs : List Nat} {P : List D → List Sl → Prop} (xs : List D) (J : Nat → List D → List Sl → Prop) (nil : ∀ acc s, J xs.length acc s → P acc s)
    (step : ∀ i d r acc s, xs[i]? = some d → J i acc s → (∀ acc s, J (i + 1) acc s → dLcL g tt te vs r acc s P) → dLcL g tt te vs (d :: r) acc s P) (acc : List D) (s : List Sl) (h : J 0 acc s) : dLcL g tt te vs xs acc s P := by
  have go : ∀ n i acc s, i + n = xs.length → J i acc s → dLcL g tt te vs (xs.drop i) acc s P := fun n => by
    induction n with
    | zero =>
      intro i acc s e j
      have : i = xs.length := by omega
      subst this
      rw [List.drop_eq_nil_of_le (Nat.le_refl _)]
      exact nil acc s j
    | succ n ih =>
      intro i acc s e j
      obtain ⟨d, hd, ed⟩ := drop_at (xs := xs) (i := i) (by omega)
      rw [ed]
      exact step i d _ acc s hd j fun acc s j => ih (i + 1) acc s (by omega) j
  exact go xs.length 0 acc s (by omega) h
theorem dc_at {g : DG} {tt : DT} {tk tv : DE} {vs : List Nat} {P : List Key × List D → List Sl → Prop} (xs : List D) (J : Nat → List Key × List D → List Sl → Prop) (nil : ∀ acc s, J xs.length acc s → P acc s)
    (step : ∀ i d r acc s, xs[i]? = some d → J i acc s → (∀ acc s, J (i + 1) acc s → dDcL g tt tk tv vs r acc s P) → dDcL g tt tk tv vs (d :: r) acc s P) (acc : List Key × List D) (s : List Sl) (h : J 0 acc s) : dDcL g tt tk tv vs xs acc s P := by
  have go : ∀ n i acc s, i + n = xs.length → J i acc s → dDcL g tt tk tv vs (xs.drop i) acc s P := fun n => by
    induction n with
    | zero =>
      intro i acc s e j
      have : i = xs.length := by omega
      subst this
      rw [List.drop_eq_nil_of_le (Nat.le_refl _)]
      exact nil acc s j
    | succ n ih =>
      intro i acc s e j
      obtain ⟨d, hd, ed⟩ := drop_at (xs := xs) (i := i) (by omega)
      rw [ed]
      exact step i d _ acc s hd j fun acc s j => ih (i + 1) acc s (by omega) j
  exact go xs.length 0 acc s (by omega) h
theorem enumD_at {xs : List D} {i : Nat} {d : D} (h : (enumD xs)[i]? = some d) : ∃ y, xs[i]? = some y ∧ d = .tup [.int i, y] := by
  have hi := (List.getElem?_eq_some_iff.mp h).1
  rw [enumD_len] at hi
  have e := enumD_get (List.getElem?_eq_getElem hi)
  rw [e] at h
  exact ⟨_, List.getElem?_eq_getElem hi, (Option.some.inj h).symm⟩
theorem rngD_at {lo : Int} {n i : Nat} {d : D} (h : (rngD lo n)[i]? = some d) : i < n ∧ d = .int (lo + i) := by
  unfold rngD at h
  rw [List.getElem?_map] at h
  have hi : i < n := by
    rcases Nat.lt_or_ge i n with c | c
    · exact c
    · rw [List.getElem?_eq_none (by rw [List.length_range]; exact c)] at h; cases h
  rw [List.getElem?_range hi] at h
  exact ⟨hi, (Option.some.inj h).symm⟩
theorem rngD_len (lo : Int) (n : Nat) : (rngD lo n).length = n := by simp [rngD]
theorem ds_at {t : Tm} {i : Nat} {d : D} (h : t.ds[i]? = some d) : ∃ v, t.flat[i]? = some v ∧ d = v.d := by
  unfold Tm.ds at h
  rw [List.getElem?_map] at h
  cases q : t.flat[i]? with
  | none => rw [q] at h; cases h
  | some v => rw [q] at h; exact ⟨v, rfl, (Option.some.inj h).symm⟩
theorem take_succ_at {α : Type} {xs : List α} {i : Nat} {x : α} (h : xs[i]? = some x) : xs.take (i + 1) = xs.take i ++ [x] := by rw [List.take_succ, h]; rfl
/-! ### dict(xs), xs a list of pairs -/
def rDictL (K : PySem.W.Frag) : List V → Hp → VK → Prop := fun xs H Q => ∃ (a : Addr) (ps : List Addr) (kvs : List (Key × V)), xs = [.ref a] ∧ SqL K H a (ps.map V.ref) ∧ Paired (fun p kv => SqT K H p [kV kv.1, kv.2]) ps kvs ∧ ∀ p, H p = none → Q (.ref p) (upd H p (.dK (mergeK [] kvs)))
theorem dictL_k {X : Cx} {K : PySem.W.Frag} (h : X.K = K) (hc : X.calm = true) : CallR X (.type "dict") (rDictL K) := by subst h; exact call_dictP hc
def dicLD : D → (List Key × List D → Prop) → Prop := fun x P => match x with
  | .lst xs => (match prsD xs with
    | some ps => P (mergeD ([], []) ps)
    | none => False)
  | _ => False
theorem l_dicL {K : PySem.W.Frag} : LCallPK K (rDictL K) dicLD := fun a B H x u P Q s ex r k => by
  unfold dicLD at r
  split at r
  · rename_i xs
    obtain ⟨p, us, rfl, hp, hv⟩ := (RP.seq s ex).1 _ rfl
    split at r
    · rename_i ps hps
      obtain ⟨as, kvs, e3, e4, e5, e6⟩ := prs_V s hv hps
      refine ⟨p, as, kvs, rfl, SqL.of (by rw [← e3]; exact hp), e4, fun l hl => ?_⟩
      obtain ⟨q1, q2⟩ := merge_V (acc := []) (ks := []) (ds := []) e5 e6 rfl .nil
      exact k _ B _ _ (Stp.cell s hl) ⟨l, _, rfl, upd_same, bfresh s hl, hl, q1, q2⟩ r
    · exact r.elim
  · exact r.elim
end Dl
set_option maxRecDepth 100000
set_option maxHeartbeats 2000000
/-! list(z) of a text -/
namespace Us
open PySem PySem.Spec PyProof.Rows L2
def chD (z : Str) : List Str := z.cps.toList.map fun c => ⟨#[c]⟩
def rListS : List V → Hp → VK → Prop := fun xs H Q => ∃ z : Str, xs = [.str z] ∧ z.length ≤ sizeLine ∧ ∀ l, H l = none → Q (.ref l) (upd H l (.lst ((chD z).map V.str)))
theorem call_listS {X : Cx} (hc : X.calm = true) : CallR X (.type "list") rListS := by
  intro pins s σ H xs us Q I r h
  obtain ⟨z, rfl, hz, q⟩ := h
  obtain ⟨u, rfl, rx⟩ := vals1 r
  obtain ⟨t, rfl⟩ := rx
  refine call_list_str (I.ok.hd hc) z t (hn := hz) fun h' tk acc' c' hk hS' hacc => ?_
  have v : Vals ((chD z).map V.str) acc'.toList := by
    refine vals_of_at ?_ fun j x u hx hu => ?_
    · unfold chD
      rw [List.length_map, List.length_map]
      exact hacc.1.symm
    · obtain ⟨c, t, e1, e2⟩ := hacc.2 j u (by simpa using hu)
      unfold chD at hx
      rw [List.getElem?_map, List.getElem?_map, Array.getElem?_toList, e1] at hx
      cases hx
      rw [e2]
      exact ⟨t, rfl⟩
  refine ⟨.ref s.heap.objs.size, _, I.laid (t' := tk) hk (Nat.le_refl _) (show ObjOk X.prog X.w _ h' _ (.lst _) from ⟨?_, acc'.toList, c', v, hS'⟩), rfl, q _ (I.hok.fresh (Nat.le_refl _))⟩
  unfold chD
  rw [List.length_map, List.length_map]
  exact hz
end Us
namespace Dl
open PySem PySem.Spec PyProof.Rows L2 Us
def lisS : D → (List D → Prop) → Prop := fun x P => match x with
  | .str z => z.length ≤ sizeLine ∧ P ((chD z).map D.str)
  | _ => False
theorem RP.strv {K : PySem.W.Frag} {a : Addr} {Ho B H : Hp} {z : Str} {v : V} (h : RP K a Ho B H (.str z) v) : v = .str z := by
  rcases h with h | ⟨_, _, _, e, _⟩ | ⟨_, _, _, _, e, _⟩
  · exact Emb.str h
  · cases e
  · cases e
theorem l_listS {K : PySem.W.Frag} : LCallPN K rListS lisS := fun a B H x u P Q s ex r k => by
  unfold lisS at r
  split at r
  · rename_i z
    cases ex.strv
    exact ⟨z, rfl, r.1, fun l hl => k _ B _ _ (Stp.cell s hl) ⟨l, _, rfl, upd_same, bfresh s hl, hl, emb_strs _⟩ r.2⟩
  · exact r.elim
end Dl
set_option maxRecDepth 100000
set_option maxHeartbeats 2000000
/-! the law's own start: behind the hand -/
namespace Dl
open PySem PySem.Spec PyProof.Rows L2 Us
theorem law_rel {K : PySem.W.Frag} {a : Addr} {B H : Hp} (s : Same B H) (h : HandOk B H a) (sc : V) (m : Nat) : Rel K a B H (.no :: .val .hand :: List.replicate m .no) (some sc :: some (.ref a) :: List.replicate m none) B H := by
  have no : ∀ i, (gS (.no :: .val .hand :: List.replicate m .no) i).isOwn = false := fun i => by
    match i with
    | 0 => rfl
    | 1 => rfl
    | i + 2 =>
      show (gS (List.replicate m .no) i).isOwn = false
      rw [gS_get, List.getElem?_replicate]
      split <;> rfl
  refine ⟨Stp.refl s, h.ne, h, by simp, fun i => ?_, fun i j p _ hi => ?_⟩
  · match i with
    | 0 => exact True.intro
    | 1 => exact ⟨.ref a, rfl, emb_hand⟩
    | i + 2 =>
      show SlR K a B H H (gS (List.replicate m .no) i) _
      have : gS (List.replicate m Sl.no) i = .no := by
        rw [gS_get, List.getElem?_replicate]
        split <;> rfl
      rw [this]
      exact True.intro
  · have := adr_own hi
    rw [no i] at this
    cases this
end Dl
set_option maxRecDepth 100000
set_option maxHeartbeats 2000000
/-! sorted texts are the ones; == of data -/
namespace Dl
open PySem PySem.Spec PyProof.Rows L2 Us
theorem lt_anti : ∀ {a b : List Nat}, ltCps a b = false → ltCps b a = false → a = b
  | [], [], _, _ => rfl
  | [], _ :: _, h, _ => by cases h
  | _ :: _, [], _, h => by cases h
  | x :: a, y :: b, h1, h2 => by
    simp only [ltCps, Bool.or_eq_false_iff, decide_eq_false_iff_not, Bool.and_eq_false_iff, beq_eq_false_iff_ne] at h1 h2
    have e : x = y := by omega
    subst e
    rw [lt_anti (h1.2.resolve_left fun h => h rfl) (h2.2.resolve_left fun h => h rfl)]
/-- a ≤ b ≤ c -/
theorem lt_trans' : ∀ {a b c : List Nat}, ltCps b a = false → ltCps c b = false → ltCps c a = false
  | [], b, c, h1, h2 => by
    cases c with
    | nil => rfl
    | cons z c => rfl
  | x :: a, [], c, h1, h2 => by cases h1
  | x :: a, y :: b, [], h1, h2 => by cases h2
  | x :: a, y :: b, z :: c, h1, h2 => by
    simp only [ltCps, Bool.or_eq_false_iff, decide_eq_false_iff_not, Bool.and_eq_false_iff, beq_eq_false_iff_ne] at h1 h2 ⊢
    refine ⟨by omega, ?_⟩
    by_cases e : z = x
    · right
      have e1 : x = y := by omega
      subst e1
      subst e
      exact lt_trans' (h1.2.resolve_left fun h => h rfl) (h2.2.resolve_left fun h => h rfl)
    · exact .inl e
def leS (a b : Str) : Prop := ltCps b.cps.toList a.cps.toList = false
theorem rising_le : ∀ {l : List Str} {p : Str}, risingS p l = true → ∀ x ∈ l, leS p x
  | y :: l, p, h, x, hx => by
    have h : (!ltCps y.cps.toList p.cps.toList && risingS y l) = true := h
    rw [Bool.and_eq_true, Bool.not_eq_true'] at h
    rcases List.mem_cons.mp hx with e | hx
    · rw [e]; exact h.1
    · exact lt_trans' h.1 (rising_le h.2 x hx)
theorem rising_sorted : ∀ {l : List Str} {p : Str}, risingS p l = true → sortedS l = true
  | [], p, h => rfl
  | y :: l, p, h => by
    have h : (!ltCps y.cps.toList p.cps.toList && risingS y l) = true := h
    rw [Bool.and_eq_true] at h
    exact h.2
theorem str_ext {a b : Str} (h : a.cps.toList = b.cps.toList) : a = b := by
  cases a; cases b
  simp only at h
  congr 1
  exact Array.toList_inj.mp h
theorem sorted_one : ∀ {xs ys : List Str}, sortedS xs = true → sortedS ys = true → xs.Nodup → ys.Nodup → (∀ z, z ∈ xs ↔ z ∈ ys) → xs = ys
  | [], ys, _, _, _, _, h => by
    cases ys with
    | nil => rfl
    | cons y ys => exact nomatch (h y).mpr (List.mem_cons_self ..)
  | x :: xs, [], _, _, _, _, h => nomatch (h x).mp (List.mem_cons_self ..)
  | x :: xs, y :: ys, s1, s2, n1, n2, h => by
    obtain ⟨a1, a2⟩ := List.nodup_cons.mp n1
    obtain ⟨b1, b2⟩ := List.nodup_cons.mp n2
    have e : x = y := by
      rcases List.mem_cons.mp ((h x).mp (List.mem_cons_self ..)) with e | hx
      · exact e
      · rcases List.mem_cons.mp ((h y).mpr (List.mem_cons_self ..)) with e | hy
        · exact e.symm
        · exact str_ext (lt_anti (rising_le s2 x hx) (rising_le s1 y hy))
    subst e
    rw [sorted_one (rising_sorted s1) (rising_sorted s2) a2 b2 fun z => ?_]
    constructor
    · intro hz
      rcases List.mem_cons.mp ((h z).mp (List.mem_cons_of_mem _ hz)) with e | hz'
      · subst e; exact absurd hz a1
      · exact hz'
    · intro hz
      rcases List.mem_cons.mp ((h z).mpr (List.mem_cons_of_mem _ hz)) with e | hz'
      · subst e; exact absurd hz b1
      · exact hz'
/-! ### == -/
mutual
theorem eqv_self : ∀ d : PyData, PyData.canLay0 d = true → PyData.eqv d d = true
  | .none, _ => by simp [PyData.eqv]
  | .bool b, _ => by simp [PyData.eqv]
  | .int i, _ => by simp [PyData.eqv]
  | .str z, _ => by simp [PyData.eqv]
  | .tuple xs, h => by simp only [PyData.canLay0] at h; simp [PyData.eqv, eqv_selfL xs h]
  | .list xs, h => by simp only [PyData.canLay0] at h; simp [PyData.eqv, eqv_selfL xs h]
  | .dict b, h => by simp [PyData.canLay0] at h
theorem eqv_selfL : ∀ ds : List PyData, PyData.canLayAll0 ds = true → PyData.eqvAll ds ds = true
  | [], _ => by simp [PyData.eqvAll]
  | d :: ds, h => by
    simp only [PyData.canLayAll0, Bool.and_eq_true] at h
    simp [PyData.eqvAll, eqv_self d h.1, eqv_selfL ds h.2]
end
theorem eqv_refl {d : D} (h : d.plain = true) : eqv d d = true := eqv_self _ (plain_lay h)
theorem eqvAll_len : ∀ {xs ys : List PyData}, PyData.eqvAll xs ys = true → xs.length = ys.length
  | [], [], _ => rfl
  | [], _ :: _, h => by simp [PyData.eqvAll] at h
  | _ :: _, [], h => by simp [PyData.eqvAll] at h
  | x :: xs, y :: ys, h => by
    simp only [PyData.eqvAll, Bool.and_eq_true] at h
    rw [List.length_cons, List.length_cons, eqvAll_len h.2]
theorem pyL_len : ∀ xs : List D, (D.pyL xs).length = xs.length
  | [] => by simp [D.pyL]
  | d :: ds => by simp [D.pyL, pyL_len ds]
theorem eqv_len {xs ys : List D} (h : xs.length ≠ ys.length) : eqv (.tup xs) (.tup ys) = false := by
  cases e : eqv (.tup xs) (.tup ys) with
  | false => rfl
  | true =>
    have e : PyData.eqvAll (D.pyL xs) (D.pyL ys) = true := by
      simp only [eqv, D.py, PyData.eqv] at e
      exact e
    have := eqvAll_len e
    rw [pyL_len, pyL_len] at this
    exact absurd this h
end Dl
set_option maxRecDepth 100000
set_option maxHeartbeats 2000000
/-! programs without the name "a" -/
namespace Dl
open PySem PySem.Spec PyProof.Rows L2 Us
def isNb (z : Str) : Bool := isNm z && !decide (z = "a")
theorem isNb_nm {z : Str} (h : isNb z = true) : isNm z = true := by unfold isNb at h; rw [Bool.and_eq_true] at h; exact h.1
theorem isNb_a {z : Str} (h : isNb z = true) : z ≠ "a" := by
  unfold isNb at h
  rw [Bool.and_eq_true, Bool.not_eq_true'] at h
  exact of_decide_eq_false h.2
def Tm.gob : Tm → Prop
  | .nm z => isNb z = true
  | .ap f x => f.gob ∧ x.gob
  | .la z k t => isNb z = true ∧ k.ok ∧ t.gob
theorem Tm.gob_good : ∀ {t : Tm}, t.gob → t.good
  | .nm z, h => isNb_nm h
  | .ap f x, h => ⟨gob_good h.1, gob_good h.2⟩
  | .la z k t, h => ⟨isNb_nm h.1, h.2.1, gob_good h.2.2⟩
theorem las_gob {t : Tm} (h : t.gob) : ∀ {ps : List (Str × Kd)}, (∀ p ∈ ps, isNb p.1 = true ∧ p.2.ok) → (las ps t).gob
  | [], _ => h
  | (z, k) :: r, g => ⟨(g _ (List.mem_cons_self ..)).1, (g _ (List.mem_cons_self ..)).2, las_gob h fun p hp => g p (List.mem_cons_of_mem _ hp)⟩
theorem gob_nm : ∀ {t : Tm}, t.gob → ∀ z, Wd.nm z ∈ t.flat → z ≠ "a"
  | .nm y, h, z, m => by
    have : Wd.nm z = .nm y := List.mem_singleton.mp m
    injection this with e
    subst e
    exact isNb_a h
  | .ap f x, h, z, m => by
    rcases List.mem_cons.mp m with e | m
    · cases e
    · exact (List.mem_append.mp m).elim (gob_nm h.1 z) (gob_nm h.2 z)
  | .la y k t, h, z, m => by
    rcases List.mem_cons.mp m with e | m
    · cases e
    · exact gob_nm h.2.2 z m
end Dl
set_option maxRecDepth 100000
set_option maxHeartbeats 2000000
/-! programs with kinds of up to sixty letters, thirty deep -/
namespace Dl
open PySem PySem.Spec PyProof.Rows L2 Us
def Kd.gk (k : Kd) : Prop := k.good ∧ k.dep ≤ 30 ∧ k.size ≤ 119
theorem kd_small8 : ∀ (k : Kd), k.size < 2 ^ (k.dep + 1)
  | .lt _ => by show 1 < 2 ^ (0 + 1); decide
  | .pr l r => by
    have h1 := kd_small8 l
    have h2 := kd_small8 r
    show l.size + r.size + 1 < 2 ^ (max l.dep r.dep + 1 + 1)
    have m1 : 2 ^ (l.dep + 1) ≤ 2 ^ (max l.dep r.dep + 1) := Nat.pow_le_pow_right (by decide) (by omega)
    have m2 : 2 ^ (r.dep + 1) ≤ 2 ^ (max l.dep r.dep + 1) := Nat.pow_le_pow_right (by decide) (by omega)
    rw [Nat.pow_succ 2 (max l.dep r.dep + 1)]
    omega
theorem Kd.gk_of {k : Kd} {n : Nat} (h : k.good) (hd : k.dep ≤ n) (hn : n ≤ 5) : k.gk := by
  refine ⟨h, by omega, ?_⟩
  have h1 := kd_small8 k
  have h2 : 2 ^ (k.dep + 1) ≤ 2 ^ 6 := Nat.pow_le_pow_right (by decide) (by omega)
  have : (2 : Nat) ^ 6 = 64 := by decide
  omega
theorem Kd.ok_gk {k : Kd} (h : k.ok) : k.gk := Kd.gk_of (n := 2) h.1 h.2 (by decide)
def Wd.gud : Wd → Prop
  | .use => True
  | .nm z => isNm z = true
  | .tk z k => isNm z = true ∧ k.gk
def Tm.gud : Tm → Prop
  | .nm z => isNm z = true
  | .ap f x => f.gud ∧ x.gud
  | .la z k t => isNm z = true ∧ k.gk ∧ t.gud
theorem Tm.good_gud : ∀ {t : Tm}, t.good → t.gud
  | .nm z, h => h
  | .ap f x, h => ⟨good_gud h.1, good_gud h.2⟩
  | .la z k t, h => ⟨h.1, Kd.ok_gk h.2.1, good_gud h.2.2⟩
end Dl
set_option maxRecDepth 100000
set_option maxHeartbeats 2000000
namespace K10
open PySem PySem.Spec PyProof.Rows L2 Us Dl
def dIsName : DSp := fun ds P _ => ∃ z : Str, ds = [.str z] ∧ isNm z = true ∧ P (.bl true)
def dKindAny : DSp := fun ds P _ => ∃ k : Kd, ds = [k.d] ∧ k.good ∧ k.size < 100000 ∧ P (.bl true)
def dIsWord : DSp := fun ds P _ => ∃ v : Wd, ds = [v.d] ∧ v.gud ∧ P (.bl true)
def sumS : List Kd → Nat
  | [] => 0
  | k :: r => k.size + sumS r
theorem sumS_app : ∀ a b : List Kd, sumS (a ++ b) = sumS a + sumS b
  | [], b => by show sumS b = 0 + _; omega
  | k :: a, b => by show k.size + sumS (a ++ b) = k.size + sumS a + _; rw [sumS_app a b]; omega
theorem kd_pos (k : Kd) : 1 ≤ k.size := by cases k with
  | lt i => exact Nat.le_refl _
  | pr l r => show 1 ≤ l.size + r.size + 1; omega
theorem sumS_len : ∀ a : List Kd, a.length ≤ sumS a
  | [] => Nat.le_refl _
  | k :: a => by
    have := kd_pos k
    have := sumS_len a
    show a.length + 1 ≤ k.size + sumS a
    omega
theorem nm_facts {z : Str} (h : isNm z = true) : 1 ≤ z.length ∧ z.length ≤ 8 ∧ ∀ c ∈ z.cps.toList, c ∈ (Str.ofString "abcdefghijklmnopqrstuvwxyz").cps.toList := by
  unfold isNm at h
  rw [Bool.and_eq_true, Bool.and_eq_true] at h
  obtain ⟨⟨h1, h2⟩, h3⟩ := h
  refine ⟨of_decide_eq_true h1, of_decide_eq_true h2, fun c hc => ?_⟩
  have := List.all_eq_true.mp h3 c hc
  unfold nameC at this
  simpa using this
theorem nm_use {z : Str} (h : isNm z = true) : z ≠ "@" := fun e => by
  rw [e] at h
  revert h
  decide +kernel
section
variable {P : Program} {w : World} {K : PySem.W.Frag} {mg : Str → Option Value} {base : Heap}
theorem ok_is_name (T : Txt K mg) : DefOk P w K mg base CX0 1 "is_name" p_is_name (toSp K dIsName) := by
  refine T.d_is_name.dl sc_is_name (fun _ _ _ _ _ _ us hl => match us, hl with | [_], _ => rfl) (fun ds Q E ⟨z, h, _⟩ => by rw [h]; rfl) (fun fa cdv A outer s H E hr => ⟨_, _, (dss_one (ds_ret (de_and (de_isi (cs := []) (n := .str) (fun _ h => nomatch h) T.f_isinstance T.f_str (by decide +kernel) (dv 0)) (de_and (de_chain op_le l_bool op_le l_bool de_int (de_b1V call_lenS l_lenS T.f_len (pv 0)) (de_gI T.c_MOST_SIGNS)) (de_one (de_b1 (all_k rfl rfl) l_all T.f_all (de_n (dn_lcm (own := [("sign", 1)]) rfl sc_is_name.nd (di_str (dv 0)) (blkOk_by (own := [("sign", 1)]) (N := n_is_name) (sc := defScope s_is_name) (by decide +kernel)) (fun _ _ _ _ _ => (dg_name (i := 1) (by decide) sc_is_name.nd rfl (Or.inl rfl))) (fun _ _ _ _ _ => dts_nil) (fun _ _ _ _ _ => (de_cmp op_in_sign l_inS (dv 1) (de_gS T.c_SMALL))))))))))), fun ds Q E h => ?_⟩)
  obtain ⟨z, rfl, hz, q⟩ := h
  obtain ⟨h1, h8, hc⟩ := nm_facts hz
  have z0 : (1000 : Nat) ≤ sizeLine := by decide
  walk_at "r"
  refine ⟨by omega, ?_⟩
  walk_at "d"
  refine cnd_case (fun c => ?_) (fun c => absurd (of_decide_eq_false c) (fun h => h (by omega)))
  walk_at "d"
  refine cnd_case (fun c => ?_) (fun c => absurd (of_decide_eq_false c) (fun h => h (by omega)))
  walk_at "d"
  have hlen : z.cps.toList.length ≤ 8 := h8
  refine lc_ind (fun c : Nat => D.str ⟨#[c]⟩) (fun rest acc s => ∃ (n : Nat), acc = (List.replicate n true).map D.bl ∧ s = [Sl.val (.str z), Sl.no] ∧ (∀ c ∈ rest, c ∈ z.cps.toList) ∧ n + rest.length ≤ 8) ?_ ?_ z.cps.toList [] _ ⟨0, rfl, rfl, fun c h => h, by omega⟩
  · rintro acc s ⟨n, rfl, rfl, _, _⟩
    walk_at "d"
    refine ⟨_, rfl, ?_⟩
    rw [show (List.replicate n true).all id = true by rw [List.all_eq_true]; intro b hb; exact (List.mem_replicate.mp hb).2]
    exact q
  · rintro c rest acc s ⟨n, rfl, rfl, hm, hn⟩ ih
    rw [List.length_cons] at hn
    walk_at "r"
    walk_at "d"
    refine ⟨c, rfl, ?_⟩
    walk_at "d"
    refine ⟨by rw [List.length_map, List.length_replicate]; omega, ?_⟩
    refine ih _ _ ⟨n + 1, ?_, rfl, fun c h => hm c (List.mem_cons_of_mem _ h), by omega⟩
    have e := hc c (hm c (List.mem_cons_self ..))
    rw [List.replicate_succ', List.map_append]
    show _ ++ [D.bl (decide _)] = _
    rw [decide_eq_true e]; rfl
theorem ok_kind_any (T : Txt K mg) (Dis_pair : DefOk P w K mg base CX0 1 "is_pair" p_is_pair (toSp K (pure1 (isOk []) fun d => .bl (isPair d)))) (Dis_within : DefOk P w K mg base CX0 2 "is_within" p_is_within (toSp K fun ds P _ => ∃ d lo hi, ds = [d, .int lo, .int hi] ∧ isOk [] d ∧ P (.bl (within d lo hi)))) :
    DefOk P w K mg base CX0 3 "is_kind_of_any_size" p_is_kind_of_any_size (toSp K dKindAny) := by
  refine T.d_is_kind_of_any_size.dl sc_is_kind_of_any_size (fun _ _ _ _ _ _ us hl => match us, hl with | [_], _ => rfl) (fun ds Q E ⟨k, h, _⟩ => by rw [h]; rfl) (fun fa cdv A outer s H E hr => ⟨_, _, (dss_cons (ds_setN (i := 1) sc_is_kind_of_any_size.nd rfl (Or.inl rfl) (dn_lst (da_cons (dv 0) da_nil)))
    (dss_cons (ds_while PassesOwn.never (dt_cmp op_gt l_bool (de_b1V (len_k rfl) l_len T.f_len (pv 1)) de_int)
      (dss_cons (ds_set (i := 2) sc_is_kind_of_any_size.nd rfl (Or.inl rfl) (de_pop (pv 1)))
      (dss_one (ds_if (dt_val (de_call0 Dis_pair (hr.mono (by first | decide | omega)) (da_cons (dv 2) da_nil)))
        (dss_one (ds_expr (de_mut PySem.F.plainAttrs_list PySem.F.slot_list_extend PySem.F.type_list_extend mt_extendT l_extT (pv 1) (dv 2))))
        (dss_one (ds_if (dt_not (dt_val (de_call0 Dis_within (hr.mono (by first | decide | omega)) (da_cons (dv 2) (da_cons de_int (da_cons (de_gI T.c_LAST_LETTER) da_nil))))))
          (dss_one (ds_ret de_bl))
          dss_nil))))))
    (dss_one (ds_ret de_bl)))), fun ds Q E h => ?_⟩)
  obtain ⟨k, rfl, kg, hk, q⟩ := h
  have z0 : (100000 : Nat) ≤ sizeLine := by decide
  walk_at "r"
  refine ⟨fun m s => ∃ (ks : List Kd) (sl : Sl), s = [Sl.val k.d, Sl.own (ks.map Kd.d), sl] ∧ sl.isOwn = false ∧ (∀ x ∈ ks, x.good) ∧ sumS ks < 100000 ∧ m = sumS ks, ⟨_, [k], Sl.no, rfl, rfl, fun x hx => by rw [List.mem_singleton.mp hx]; exact kg, by show k.size + 0 < _; omega, rfl⟩, ?_⟩
  rintro m s ⟨ks, sl, rfl, hsl, hg, hs, rfl⟩
  walk_at "d"
  refine cnd_case (fun c => ?_) (fun c => ?_)
  · have hpos : 0 < (ks.map Kd.d).length := by have := of_decide_eq_true c; omega
    rw [List.length_map] at hpos
    obtain ⟨k0, x, rfl⟩ : ∃ k0 x, ks = k0 ++ [x] := ⟨ks.dropLast, ks.getLast (List.length_pos_iff.mp hpos), (List.dropLast_concat_getLast _).symm⟩
    rw [sumS_app] at hs
    have hs1 : sumS k0 + (x.size + 0) < 100000 := hs
    have e1 : ((k0 ++ [x]).map Kd.d)[((k0 ++ [x]).map Kd.d).length - 1]? = some x.d := by simp
    have e2 : ((k0 ++ [x]).map Kd.d).dropLast = k0.map Kd.d := by simp
    walk_at "d"
    rw [e1, e2]
    have hx := hg x (List.mem_append_right _ (List.mem_singleton.mpr rfl))
    have hl := sumS_len k0
    cases x with
    | lt i =>
      walk_at "d"
      refine ⟨_, rfl, True.intro, ?_⟩
      walk_at "d"
      refine ⟨_, _, _, rfl, True.intro, ?_⟩
      have hw : within (Kd.lt i).d 0 25 = true := by
        show (decide (0 ≤ i) && decide (i ≤ 25)) = true
        rw [decide_eq_true hx.1, decide_eq_true hx.2]; rfl
      rw [hw]
      walk_at "d"
      refine ⟨_, ?_, k0, _, rfl, rfl, fun y hy => hg y (List.mem_append_left _ hy), by omega, rfl⟩
      rw [sumS_app]
      show sumS k0 < sumS k0 + (1 + 0)
      omega
    | pr l r =>
      walk_at "d"
      refine ⟨_, rfl, True.intro, ?_⟩
      walk_at "r"
      walk_at "d"
      have hsz : sumS k0 + (l.size + r.size + 1 + 0) < 100000 := hs1
      refine ⟨show (k0.map Kd.d).length + 2 ≤ sizeLine by rw [List.length_map]; omega, ?_⟩
      refine ⟨_, ?_, k0 ++ [l, r], Sl.val (Kd.pr l r).d, by rw [List.map_append (f := Kd.d) (l₁ := k0) (l₂ := [l, r])]; rfl, rfl, fun y hy => ?_, ?_, rfl⟩
      · rw [sumS_app, sumS_app]
        show sumS k0 + (l.size + (r.size + 0)) < sumS k0 + (l.size + r.size + 1 + 0)
        omega
      · rcases List.mem_append.mp hy with h | h
        · exact hg y (List.mem_append_left _ h)
        · rcases List.mem_cons.mp h with h | h
          · rw [h]; exact hx.1
          · rw [List.mem_singleton.mp h]; exact hx.2
      · rw [sumS_app]
        show sumS k0 + (l.size + (r.size + 0)) < _
        omega
  · walk_at "d"
    exact q
theorem ok_is_word (T : Txt K mg) (Dis_pair : DefOk P w K mg base CX0 1 "is_pair" p_is_pair (toSp K (pure1 (isOk []) fun d => .bl (isPair d)))) (Dis_name : DefOk P w K mg base CX0 1 "is_name" p_is_name (toSp K dIsName))
    (Dis_kind_of_any_size : DefOk P w K mg base CX0 3 "is_kind_of_any_size" p_is_kind_of_any_size (toSp K dKindAny)) : DefOk P w K mg base CX0 4 "is_word" p_is_word (toSp K dIsWord) := by
  refine T.d_is_word.dl sc_is_word (fun _ _ _ _ _ _ us hl => match us, hl with | [_], _ => rfl) (fun ds Q E ⟨k, h, _⟩ => by rw [h]; rfl) (fun fa cdv A outer s H E hr => ⟨_, _, (dss_cons (ds_if (dt_val (de_call0 Dis_pair (hr.mono (by first | decide | omega)) (da_cons (dv 0) da_nil)))
      (dss_one (ds_ret (de_and (de_call0 Dis_name (hr.mono (by first | decide | omega)) (da_cons (de_ixV (pv 0) de_int) da_nil)) (de_one (de_call0 Dis_kind_of_any_size (hr.mono (by first | decide | omega)) (da_cons (de_ixV (pv 0) de_int) da_nil))))))
      dss_nil)
    (dss_one (ds_ret (de_and (de_isi (cs := []) (n := .str) (fun _ h => nomatch h) T.f_isinstance T.f_str (by decide +kernel) (dv 0)) (de_one (de_or (de_cmp op_eq l_eqS (dv 0) (de_gS T.c_USE)) (de_one (de_call0 Dis_name (hr.mono (by first | decide | omega)) (da_cons (dv 0) da_nil))))))))), fun ds Q E h => ?_⟩)
  obtain ⟨v, rfl, vg, q⟩ := h
  cases v with
  | use =>
    walk_at "d"
    refine ⟨_, rfl, True.intro, ?_⟩
    walk_at "r"
    walk_at "d"
    exact q
  | nm z =>
    walk_at "d"
    refine ⟨_, rfl, True.intro, ?_⟩
    walk_at "r"
    walk_at "d"
    have hne : z ≠ "@" := nm_use vg
    refine cnd_case (fun c => absurd (of_decide_eq_true c) hne) (fun c => ?_)
    walk_at "d"
    exact ⟨z, rfl, vg, q⟩
  | tk z k =>
    walk_at "d"
    refine ⟨_, rfl, True.intro, ?_⟩
    walk_at "r"
    walk_at "d"
    refine ⟨z, rfl, vg.1, ?_⟩
    walk_at "r"
    walk_at "d"
    exact ⟨k, rfl, vg.2.1, (by have := vg.2.2.2; omega), q⟩
end

end K10
set_option maxRecDepth 100000
set_option maxHeartbeats 2000000
namespace K10
open PySem PySem.Spec PyProof.Rows L2 Us Dl
def stepW (m : Int) : Wd → Int
  | .use => m - 1
  | .nm _ => m + 1
  | .tk _ _ => m
def safeW : Int → List Wd → Prop
  | _, [] => True
  | m, v :: r => 1 ≤ stepW m v ∧ safeW (stepW m v) r
def finW : Int → List Wd → Int
  | m, [] => m
  | m, v :: r => finW (stepW m v) r
theorem whole_tm : ∀ (t : Dl.Tm) (rest : List Wd) (m : Int), 0 ≤ m → safeW (m + 1) rest → safeW m (t.flat.reverse ++ rest) ∧ finW m (t.flat.reverse ++ rest) = finW (m + 1) rest
  | .nm z, rest, m, h0, h => ⟨⟨by show 1 ≤ m + 1; omega, h⟩, rfl⟩
  | .ap f x, rest, m, h0, h => by
    have e : (Tm.ap f x).flat.reverse ++ rest = x.flat.reverse ++ (f.flat.reverse ++ (.use :: rest)) := by
      show (Wd.use :: (f.flat ++ x.flat)).reverse ++ rest = _
      rw [List.reverse_cons, List.reverse_append]; simp
    rw [e]
    have a1 : safeW (m + 1 + 1) (.use :: rest) := ⟨by show 1 ≤ m + 1 + 1 - 1; omega, by rw [show stepW (m + 1 + 1) .use = m + 1 by show m + 1 + 1 - 1 = _; omega]; exact h⟩
    obtain ⟨b1, b2⟩ := whole_tm f (.use :: rest) (m + 1) (by omega) a1
    obtain ⟨c1, c2⟩ := whole_tm x _ m h0 b1
    refine ⟨c1, c2.trans (b2.trans ?_)⟩
    show finW (m + 1 + 1 - 1) rest = _
    rw [show m + 1 + 1 - 1 = m + 1 by omega]
  | .la z k t, rest, m, h0, h => by
    have e : (Tm.la z k t).flat.reverse ++ rest = t.flat.reverse ++ (.tk z k :: rest) := by
      show (Wd.tk z k :: t.flat).reverse ++ rest = _
      rw [List.reverse_cons]; simp
    rw [e]
    exact whole_tm t (.tk z k :: rest) m h0 ⟨by show 1 ≤ m + 1; omega, h⟩
theorem isi_wd (v : Wd) : isiB v.d .tuple = (match v with | .tk _ _ => true | _ => false) := by cases v <;> rfl
theorem isok_wd (v : Wd) : isOk [] v.d := by cases v <;> exact True.intro
def dWhole : DSp := fun ds P _ => ∃ t : Dl.Tm, ds = [.tup t.ds] ∧ t.gud ∧ t.size ≤ 1000 ∧ P (.bl true)
theorem flat_gud : ∀ {t : Dl.Tm}, t.gud → ∀ v ∈ t.flat, v.gud
  | .nm z, h, v, hv => by rw [List.mem_singleton.mp hv]; exact h
  | .ap f x, h, v, hv => by
    rcases List.mem_cons.mp hv with e | hv
    · rw [e]; exact True.intro
    · rcases List.mem_append.mp hv with hv | hv
      · exact flat_gud h.1 v hv
      · exact flat_gud h.2 v hv
  | .la z k t, h, v, hv => by
    rcases List.mem_cons.mp hv with e | hv
    · rw [e]; exact ⟨h.1, h.2.1⟩
    · exact flat_gud h.2.2 v hv
abbrev spTake (K : PySem.W.Frag) : Sp := toSp K (pure1 (isOk []) fun d => .bl (isiB d .tuple))
section
variable {P : Program} {w : World} {K : PySem.W.Frag} {mg : Str → Option Value} {base : Heap}
theorem ok_whole (T : Txt K mg) (Dis_take : DefOk P w K mg base CX0 1 "is_take" p_is_take (spTake K)) : DefOk P w K mg base CX0 2 "is_whole" p_is_whole (toSp K dWhole) := by
  refine T.d_is_whole.dl sc_is_whole (fun _ _ _ _ _ _ us hl => match us, hl with | [_], _ => rfl) (fun ds Q E ⟨t, h, _⟩ => by rw [h]; rfl) (fun fa cdv A outer s H E hr => ⟨_, _, (dss_cons (ds_set (i := 1) sc_is_whole.nd rfl (Or.inl rfl) de_int)
    (dss_cons (ds_for (vs := [2]) PassesOwn.never rfl (di_tup (de_revT (dv 0))) (dg_name (i := 2) (by decide) sc_is_whole.nd rfl (Or.inl rfl))
      (dss_cons (ds_if (dt_not (dt_val (de_call0 Dis_take (hr.mono (by first | decide | omega)) (da_cons (dv 2) da_nil))))
        (dss_one (ds_aug (i := 1) sc_is_whole.nd rfl (Or.inl rfl) (de_if (dt_cmp op_eq l_eqS (dv 2) (de_gS T.c_USE)) (de_un un_neg l_neg de_int) de_int) ip_add))
        dss_nil)
      (dss_one (ds_if (dt_cmp op_lt l_bool (dv 1) de_int)
        (dss_one (ds_ret de_bl))
        dss_nil))))
    (dss_one (ds_ret (de_cmp op_eq l_eqS (dv 1) de_int))))), fun ds Q E h => ?_⟩)
  obtain ⟨t, rfl, tg, ht, q⟩ := h
  have z0 : (1000 : Nat) ≤ sizeLine := by decide
  obtain ⟨w1, w2⟩ := whole_tm t [] 0 (by decide) True.intro
  rw [List.append_nil] at w1 w2
  walk_at "r"
  have er : t.ds.reverse = t.flat.reverse.map Wd.d := by unfold Tm.ds; rw [List.map_reverse]
  walk_at "d"
  rw [er]
  have fg := flat_gud tg
  refine for_ind Wd.d (fun rest s => ∃ (m : Int) (sl : Sl), s = [Sl.val (.tup t.ds), Sl.val (.int m), sl] ∧ sl.isOwn = false ∧ safeW m rest ∧ finW m rest = 1 ∧ ∀ v ∈ rest, v.gud) ?_ ?_ t.flat.reverse _ ⟨0, Sl.no, rfl, rfl, w1, w2, fun v hv => fg v (List.mem_reverse.mp hv)⟩
  · rintro s ⟨m, sl, rfl, _, _, hf, _⟩
    have hm : m = 1 := hf
    subst hm
    walk_at "d"
    exact q
  · rintro v r s ⟨m, sl, rfl, hsl, ⟨hs1, hs2⟩, hf, hg⟩ ih
    have hv := hg v (List.mem_cons_self ..)
    have nxt : ∀ sl' : Sl, sl'.isOwn = false → _ := fun sl' h => ih [Sl.val (.tup t.ds), Sl.val (.int (stepW m v)), sl'] ⟨stepW m v, sl', rfl, h, hs2, hf, fun x hx => hg x (List.mem_cons_of_mem _ hx)⟩
    walk_at "d"
    refine ⟨_, rfl, isok_wd v, ?_⟩
    cases v with
    | use =>
      walk_at "d"
      have e : m + -1 = stepW m .use := by show m + -1 = m - 1; omega
      rw [e]
      refine cnd_case (fun c => absurd (of_decide_eq_true c) (by omega)) (fun c => ?_)
      exact nxt _ rfl
    | nm z =>
      walk_at "d"
      refine cnd_case (fun c => absurd (of_decide_eq_true c) (nm_use hv)) (fun c => ?_)
      walk_at "d"
      refine cnd_case (fun c => absurd (of_decide_eq_true c) (by have : 1 ≤ m + 1 := hs1; omega)) (fun c => ?_)
      exact nxt _ rfl
    | tk z k =>
      walk_at "d"
      refine cnd_case (fun c => absurd (of_decide_eq_true c) (by have : 1 ≤ m := hs1; omega)) (fun c => ?_)
      exact nxt _ rfl
end

end K10
set_option maxRecDepth 100000
set_option maxHeartbeats 2000000
namespace K10
open PySem PySem.Spec PyProof.Rows L2 Us Dl
def dCheck : DSp := fun ds P _ => ∃ t : Dl.Tm, ds = [.tup t.ds] ∧ t.gud ∧ t.size ≤ 1000 ∧ P .non
def endsT : Nat → Dl.Tm → List Nat
  | o, .nm _ => [o + 1]
  | o, .ap f x => (o + 1 + f.size + x.size) :: (endsT (o + 1) f ++ endsT (o + 1 + f.size) x)
  | o, .la _ _ t => (o + 1 + t.size) :: endsT (o + 1) t
theorem endsT_len : ∀ (t : Dl.Tm) (o : Nat), (endsT o t).length = t.size
  | .nm _, o => rfl
  | .ap f x, o => by unfold endsT Tm.size; rw [List.length_cons, List.length_append, endsT_len f, endsT_len x]
  | .la _ _ t, o => by unfold endsT Tm.size; rw [List.length_cons, endsT_len t]
def runE : List Wd → List Nat → List Nat → Option (List Nat)
  | [], tail, _ => some tail
  | .use :: pre, tail, _ :: b :: r => runE pre (b :: tail) (b :: r)
  | .use :: _, _, _ => none
  | .tk _ _ :: pre, tail, a :: r => runE pre (a :: tail) (a :: r)
  | .tk _ _ :: _, _, [] => none
  | .nm _ :: pre, tail, wt => runE pre ((pre.length + 1) :: tail) ((pre.length + 1) :: wt)
theorem runE_tm : ∀ (t : Dl.Tm) (pre : List Wd) (tail wt : List Nat), runE (t.flat.reverse ++ pre) tail wt = runE pre (endsT pre.length t ++ tail) ((pre.length + t.size) :: wt)
  | .nm z, pre, tail, wt => rfl
  | .ap f x, pre, tail, wt => by
    have e : (Tm.ap f x).flat.reverse ++ pre = x.flat.reverse ++ (f.flat.reverse ++ (.use :: pre)) := by
      show (Wd.use :: (f.flat ++ x.flat)).reverse ++ pre = _
      rw [List.reverse_cons, List.reverse_append]; simp
    have l1 : (f.flat.reverse ++ (Wd.use :: pre)).length = pre.length + 1 + f.size := by rw [List.length_append, List.length_reverse, f.flat_len, List.length_cons]; omega
    rw [e, runE_tm x, runE_tm f, l1, List.length_cons]
    show runE pre _ _ = runE pre (((pre.length + 1 + f.size + x.size) :: (endsT (pre.length + 1) f ++ endsT (pre.length + 1 + f.size) x)) ++ tail) _
    rw [show pre.length + (Tm.ap f x).size = pre.length + 1 + f.size + x.size by show pre.length + (f.size + x.size + 1) = _; omega]
    rw [List.cons_append, List.append_assoc]
  | .la z k t, pre, tail, wt => by
    have e : (Tm.la z k t).flat.reverse ++ pre = t.flat.reverse ++ (.tk z k :: pre) := by
      show (Wd.tk z k :: t.flat).reverse ++ pre = _
      rw [List.reverse_cons]; simp
    rw [e, runE_tm t, List.length_cons]
    rw [show pre.length + (Tm.la z k t).size = pre.length + 1 + t.size by show pre.length + (t.size + 1) = _; omega]
    rfl
def nD (n : Nat) : D := .int (n : Int)
def dEndsOf : DSp := fun ds P _ => ∃ t : Dl.Tm, ds = [.tup t.ds] ∧ t.gud ∧ t.size ≤ 1000 ∧ P (.lst ((endsT 0 t).map nD))
theorem rep_one (n : Nat) (d : D) : (List.replicate ((n : Int).toNat) [d]).flatten = List.replicate n d := by
  rw [Int.toNat_natCast]
  induction n with
  | zero => rfl
  | succ n ih => rw [List.replicate_succ, List.flatten_cons, ih, List.replicate_succ]; rfl
theorem ixN_nat {n k : Nat} (h : k < n) : ixN n (k : Int) = some k := by
  unfold ixN
  first
    | (simp [h]; done)
    | (rw [if_neg (by omega), if_pos (by omega)]; rfl)
theorem dep_kd : ∀ k : Kd, k.d.dep = k.dep
  | .lt _ => by simp [Kd.d, D.dep, Kd.dep]
  | .pr l r => by
    have h1 := dep_kd l
    have h2 := dep_kd r
    simp [Kd.d, D.dep, D.depL, Kd.dep, h1, h2]
theorem plain_kd : ∀ k : Kd, k.d.plain = true
  | .lt _ => by simp [Kd.d, D.plain]
  | .pr l r => by simp [Kd.d, D.plain, D.plainL, plain_kd l, plain_kd r]
theorem small_ok : ∀ c ∈ (Str.ofString "abcdefghijklmnopqrstuvwxyz").cps.toList, c < 0x110000 := by decide +kernel
theorem strOk_of {z : Str} (h : isNm z = true) : PyData.strOk z = true := by
  unfold PyData.strOk
  rw [Array.all_eq_true_iff_forall_mem]
  intro c hc
  exact decide_eq_true (small_ok c ((nm_facts h).2.2 c (by simpa using hc)))
theorem ok_str {z : Str} (h : PyData.strOk z = true) : (D.str z).ok = true := by simp [D.ok, D.plain, D.dep, h]
theorem strOk_use : PyData.strOk "@" = true := by decide +kernel
theorem ok_wd (v : Wd) (h : v.gud) : v.d.ok = true := by
  cases v with
  | use => exact ok_str strOk_use
  | nm z => exact ok_str (strOk_of h)
  | tk z k =>
    have := h.2.2.1
    have hs := strOk_of h.1
    simp [Wd.d, D.ok, D.plain, D.plainL, D.dep, D.depL, plain_kd, dep_kd, hs]
    omega
theorem eqv_use (v : Wd) : eqv v.d (.str "@") = (match v with | .use => true | .nm z => decide (z = "@") | .tk _ _ => false) := by
  cases v with
  | use => simp [Wd.d, eqv, D.py, PyData.eqv]
  | nm z =>
    simp only [Wd.d, Dl.eqv, D.py, PyData.eqv]
    by_cases e : z = "@"
    · subst e; rw [decide_eq_true rfl]; exact beq_self_eq_true _
    · rw [decide_eq_false e]; exact beq_eq_false_iff_ne.mpr e
  | tk z k => simp [Wd.d, eqv, D.py, PyData.eqv]
section
variable {P : Program} {w : World} {K : PySem.W.Frag} {mg : Str → Option Value} {base : Heap}
theorem ok_check (T : Txt K mg) (Dis_word : DefOk P w K mg base CX0 4 "is_word" p_is_word (toSp K dIsWord)) (Dis_whole : DefOk P w K mg base CX0 2 "is_whole" p_is_whole (toSp K dWhole)) :
    DefOk P w K mg base (L2.CX P w) 5 "check_program" p_check_program (toSp K dCheck) := by
  refine T.d_check_program.dlX sc_check_program (fun _ _ _ _ _ _ us hl => match us, hl with | [_], _ => rfl) (fun ds Q E ⟨t, h, _⟩ => by rw [h]; rfl) (fun fa cdv A outer s H E hr => ⟨_, _, (dss_cons (ds_if (DPW.pt (dw_or (dt_not (dt_val (de_isi (cs := []) (n := .tuple) (fun _ h => nomatch h) T.f_isinstance T.f_tuple (by decide +kernel) (dv 0)))) (dw_or (dt_cmp op_eq l_eqS (de_b1V (len_k rfl) l_len T.f_len (pv 0)) de_int) (dw_or1 (dt_not (dt_val (de_b1 (all_k rfl rfl) l_all T.f_all (de_n (dn_lcm (own := [("word", 1)]) rfl sc_check_program.nd (di_tup (dv 0)) (blkOk_by (own := [("word", 1)]) (N := n_check_program) (sc := defScope s_check_program) (by decide +kernel)) (fun _ _ _ _ _ => (dg_name (i := 1) (by decide) sc_check_program.nd rfl (Or.inl rfl))) (fun _ _ _ _ _ => dts_nil) (fun _ _ _ _ _ => (de_call0 Dis_word (hr.mono (by first | decide | omega)) (da_cons (dv 1) da_nil))))))))))))
      (dss_one (ds_raise0 rfl rfl (takes_of rfl rfl rfl rfl) T.x_NoProgram))
      dss_nil)
    (dss_one (ds_if (dt_not (dt_val (de_call0 Dis_whole (hr.mono (by first | decide | omega)) (da_cons (dv 0) da_nil))))
      (dss_one (ds_raise0 rfl rfl (takes_of rfl rfl rfl rfl) T.x_NoProgram))
      dss_nil))), fun ds Q E h => ?_⟩)
  obtain ⟨t, rfl, tg, ht, q⟩ := h
  have z0 : (1000 : Nat) ≤ sizeLine := by decide
  have hp := t.size_pos
  walk_at "r"
  walk_at "d"
  refine cnd_case (fun c => absurd (of_decide_eq_true c) (by rw [t.ds_len]; omega)) (fun c => ?_)
  walk_at "d"
  have fg := flat_gud tg
  refine lc_ind Wd.d (fun rest acc s => ∃ (n : Nat), acc = (List.replicate n true).map D.bl ∧ s = [Sl.val (.tup t.ds), Sl.no] ∧ (∀ v ∈ rest, v.gud) ∧ n + rest.length ≤ 1000) ?_ ?_ t.flat [] _ ⟨0, rfl, rfl, fg, by rw [t.flat_len]; omega⟩
  · rintro acc s ⟨n, rfl, rfl, _, _⟩
    walk_at "d"
    refine ⟨_, rfl, ?_⟩
    rw [show (List.replicate n true).all id = true by rw [List.all_eq_true]; intro b hb; exact (List.mem_replicate.mp hb).2]
    walk_at "d"
    refine ⟨t, rfl, tg, ht, ?_⟩
    walk_at "d"
    exact q
  · rintro v rest acc s ⟨n, rfl, rfl, hm, hn⟩ ih
    rw [List.length_cons] at hn
    walk_at "r"
    walk_at "d"
    refine ⟨v, rfl, hm v (List.mem_cons_self ..), ?_⟩
    walk_at "d"
    refine ⟨by rw [List.length_map, List.length_replicate]; omega, ?_⟩
    refine ih _ _ ⟨n + 1, ?_, rfl, fun c h => hm c (List.mem_cons_of_mem _ h), by omega⟩
    rw [List.replicate_succ', List.map_append]; rfl
end

end K10
set_option maxRecDepth 100000
set_option maxHeartbeats 2000000
namespace K10
open PySem PySem.Spec PyProof.Rows L2 Us Dl
section
variable {P : Program} {w : World} {K : PySem.W.Frag} {mg : Str → Option Value} {base : Heap}
theorem ok_spans (T : Txt K mg) : DefOk P w K mg base CX0 1 "_law_spans" p_law_spans (toSp K dEndsOf) := by
  refine T.d_law_spans.dl sc_law_spans (fun _ _ _ _ _ _ us hl => match us, hl with | [_], _ => rfl) (fun ds Q E ⟨t, h, _⟩ => by rw [h]; rfl) (fun fa cdv A outer s H E hr => ⟨_, _, (dss_cons (ds_setN (i := 1) sc_law_spans.nd rfl (Or.inl rfl) (dn_rep (de_n (dn_lst (da_cons de_int da_nil))) (de_b1V (len_k rfl) l_len T.f_len (pv 0))))
    (dss_cons (ds_setN (i := 2) sc_law_spans.nd rfl (Or.inl rfl) (dn_lst da_nil))
    (dss_cons (ds_for (vs := [3]) PassesOwn.never rfl (di_down T.f_range (da_cons (de_op op_sub l_int (de_b1V (len_k rfl) l_len T.f_len (pv 0)) de_int) (da_cons (de_un un_neg l_neg de_int) (da_cons (de_un un_neg l_neg de_int) da_nil)))) (dg_name (i := 3) (by decide) sc_law_spans.nd rfl (Or.inl rfl))
      (dss_cons (ds_set (i := 4) sc_law_spans.nd rfl (Or.inl rfl) (de_op op_add l_int (dv 3) de_int))
      (dss_cons (ds_if (dt_cmp (op_eqD hr.units) l_eqD (de_ixV (pv 0) (dv 3)) de_str)
        (dss_cons (ds_expr (de_pop (pv 2)))
        (dss_one (ds_set (i := 4) sc_law_spans.nd rfl (Or.inl rfl) (de_pop (pv 2)))))
        (dss_one (ds_if (dt_val (de_isi (cs := []) (n := .tuple) (fun _ h => nomatch h) T.f_isinstance T.f_tuple (by decide +kernel) (de_ixV (pv 0) (dv 3))))
          (dss_one (ds_set (i := 4) sc_law_spans.nd rfl (Or.inl rfl) (de_pop (pv 2))))
          dss_nil)))
      (dss_cons (ds_setIt (pv 1) (dv 4) (dv 3) (hg := pg_sub (pv 1) (DPE.pe (K := K) (W := WXn) (dv 3)) set_list))
      (dss_one (ds_expr (de_mut PySem.F.plainAttrs_list PySem.F.slot_list_append PySem.F.type_list_append mt_append l_app (pv 2) (dv 4))))))))
    (dss_one (ds_ret (dv 1)))))), fun ds Q E h => ?_⟩)
  obtain ⟨t, rfl, tg, ht, q⟩ := h
  have z0 : (1000 : Nat) ≤ sizeLine := by decide
  have hp := t.size_pos
  have fg := flat_gud tg
  walk_at "r"
  walk_at "d"
  refine ⟨⟨by omega, by rw [t.ds_len]; omega, by rw [t.ds_len, Int.toNat_natCast]; show 1 * t.size ≤ sizeLine; omega⟩, ?_⟩
  rw [rep_one, t.ds_len]
  walk_at "r"
  walk_at "d"
  refine ⟨⟨rfl, by rw [t.ds_len]; omega, by rw [t.ds_len]; omega, by decide, by decide⟩, ?_⟩
  rw [t.ds_len, show ((t.size : Int) - 1 - -1).toNat = t.size by omega]
  refine for_ind (fun k : Nat => D.int ((t.size : Int) - 1 + (k : Int) * -1)) (fun rest s => ∃ (pre suf : List Wd) (tail wt : List Nat) (sl3 sl4 : Sl), s = [Sl.val (.tup t.ds), Sl.own (List.replicate pre.length (nD 0) ++ tail.map nD), Sl.own (wt.reverse.map nD), sl3, sl4] ∧ sl3.isOwn = false ∧ sl4.isOwn = false ∧
    rest = List.range' (t.size - pre.length) pre.length ∧ pre.length + tail.length = t.size ∧ pre.reverse ++ suf = t.flat ∧ wt.length ≤ tail.length ∧ runE pre tail wt = some (endsT 0 t) ∧ ∀ v ∈ pre, v.gud) ?_ ?_ (List.range t.size) _
    ⟨t.flat.reverse, [], [], [], Sl.no, Sl.no, ?_, rfl, rfl, ?_, ?_, by simp, Nat.le_refl _, ?_, fun v hv => fg v (List.mem_reverse.mp hv)⟩
  · rintro s ⟨pre, suf, tail, wt, sl3, sl4, rfl, _, _, hr, _, _, _, hrun, _⟩
    have : pre = [] := by
      cases pre with
      | nil => rfl
      | cons v pre => rw [List.length_cons, List.range'_succ] at hr; cases hr
    subst this
    cases hrun
    walk_at "d"
    exact q
  · rintro x r s ⟨pre, suf, tail, wt, sl3, sl4, rfl, h3, h4, hr, hlen, hsuf, hwl, hrun, hg⟩ ih
    cases pre with
    | nil => cases hr
    | cons v pre =>
      rw [List.length_cons] at hr hlen
      rw [List.range'_succ] at hr
      injection hr with hx hr
      have ex : (t.size : Int) - 1 + (x : Int) * -1 = (pre.length : Int) := by omega
      have hrr : r = List.range' (t.size - pre.length) pre.length := by rw [hr]; congr 1; omega
      rw [List.reverse_cons, List.append_assoc] at hsuf
      have hat : atI t.ds (pre.length : Int) = some v.d := by
        refine atI_nat ?_
        unfold Tm.ds
        rw [← hsuf, List.map_append, List.getElem?_append_right (by rw [List.length_map, List.length_reverse]; exact Nat.le_refl _)]
        simp
      have hset : ∀ e : D, (List.replicate (pre.length + 1) (nD 0) ++ tail.map nD).set pre.length e = List.replicate pre.length (nD 0) ++ e :: tail.map nD := fun e => by
        rw [List.replicate_succ', List.append_assoc, List.set_append_right _ _ (by rw [List.length_replicate]; exact Nat.le_refl _)]
        simp
      have hix : ixN (List.replicate (pre.length + 1) (nD 0) ++ tail.map nD).length (pre.length : Int) = some pre.length := by
        rw [List.length_append, List.length_replicate]
        exact ixN_nat (by omega)
      have nxt : ∀ (e : Nat) (wt' : List Nat) (a b : Sl), a.isOwn = false → b.isOwn = false → (e :: wt').length ≤ tail.length + 1 → runE pre (e :: tail) (e :: wt') = some (endsT 0 t) → _ := fun e wt' a b ha hb hw hru =>
        ih [Sl.val (.tup t.ds), Sl.own (List.replicate pre.length (nD 0) ++ (e :: tail).map nD), Sl.own ((e :: wt').reverse.map nD), a, b] ⟨pre, v :: suf, e :: tail, e :: wt', a, b, rfl, ha, hb, hrr, by rw [List.length_cons]; omega, hsuf, hw, hru, fun y hy => hg y (List.mem_cons_of_mem _ hy)⟩
      have hv := hg v (List.mem_cons_self ..)
      rw [ex]
      walk_at "r"
      walk_at "d"
      rw [hat]
      walk_at "d"
      refine ⟨⟨ok_wd v hv, ok_str strOk_use⟩, ?_⟩
      rw [eqv_use]
      -- what every way ends with
      have snoc : ∀ (a : Nat) (l : List Nat), (a :: l).reverse.map nD = l.reverse.map nD ++ [nD a] := fun a l => by rw [List.reverse_cons, List.map_append]; rfl
      have last : ∀ (l : List D) (y : D), (l ++ [y])[(l ++ [y]).length - 1]? = some y := fun l y => by simp
      have init : ∀ (l : List D) (y : D), (l ++ [y]).dropLast = l := fun l y => by simp
      cases v with
      | use =>
        cases wt with
        | nil => cases hrun
        | cons a wt =>
          cases wt with
          | nil => cases hrun
          | cons b wt =>
            rw [snoc a, snoc b]
            walk_at "d"
            rw [last, init]
            walk_at "d"
            rw [last, init]
            walk_at "r"
            walk_at "d"
            rw [show (List.replicate (Wd.use :: pre).length (nD 0) ++ tail.map nD) = List.replicate (pre.length + 1) (nD 0) ++ tail.map nD from rfl, hix]
            walk_at "r"
            walk_at "d"
            rw [hset (nD b)]
            refine ⟨by rw [List.length_map, List.length_reverse]; rw [List.length_cons, List.length_cons] at hwl; omega, ?_⟩
            have n := nxt b wt (Sl.val (.int (pre.length : Nat))) (Sl.val (nD b)) rfl rfl (by rw [List.length_cons] at hwl ⊢; rw [List.length_cons] at hwl; omega) hrun
            rw [snoc b] at n
            exact n
      | nm z =>
        walk_at "d"
        refine cnd_case (fun c => absurd (of_decide_eq_true c) (nm_use hv)) (fun c => ?_)
        walk_at "r"
        walk_at "d"
        rw [hat]
        walk_at "d"
        refine ⟨True.intro, ?_⟩
        walk_at "r"
        walk_at "d"
        rw [show (List.replicate (Wd.nm z :: pre).length (nD 0) ++ tail.map nD) = List.replicate (pre.length + 1) (nD 0) ++ tail.map nD from rfl, hix]
        walk_at "r"
        walk_at "d"
        rw [hset]
        refine ⟨by rw [List.length_map, List.length_reverse]; omega, ?_⟩
        have n := nxt (pre.length + 1) wt (Sl.val (.int (pre.length : Nat))) (Sl.val (nD (pre.length + 1))) rfl rfl (by rw [List.length_cons]; omega) hrun
        rw [snoc] at n
        exact n
      | tk z k =>
        cases wt with
        | nil => cases hrun
        | cons a wt =>
          rw [snoc a]
          walk_at "r"
          walk_at "d"
          rw [hat]
          walk_at "d"
          refine ⟨True.intro, ?_⟩
          walk_at "d"
          rw [last, init]
          walk_at "r"
          walk_at "d"
          rw [show (List.replicate (Wd.tk z k :: pre).length (nD 0) ++ tail.map nD) = List.replicate (pre.length + 1) (nD 0) ++ tail.map nD from rfl, hix]
          walk_at "r"
          walk_at "d"
          rw [hset (nD a)]
          refine ⟨by rw [List.length_map, List.length_reverse]; rw [List.length_cons] at hwl; omega, ?_⟩
          have n := nxt a wt (Sl.val (.int (pre.length : Nat))) (Sl.val (nD a)) rfl rfl (by rw [List.length_cons] at hwl ⊢; omega) hrun
          rw [snoc a] at n
          exact n
  · rw [List.length_reverse, t.flat_len]
    show [_, _, _, _, _] = _
    rw [List.map_nil, List.append_nil]; rfl
  · rw [List.length_reverse, t.flat_len, Nat.sub_self, List.range_eq_range']
  · rw [List.length_reverse, t.flat_len]; rfl
  · have := runE_tm t [] [] []
    rw [List.append_nil] at this
    rw [this]
    show some (endsT 0 t ++ []) = _
    rw [List.append_nil]
end

end K10
set_option maxRecDepth 100000
set_option maxHeartbeats 4000000
/-! tuples known whole: + and slices -/
noncomputable section
namespace Us
open PySem PySem.Spec PyProof.Rows L2
section
variable {X : Cx}
theorem pt_sqT {K : PySem.W.Frag} {H : Hp} {a : Addr} {us : List V} (h : PT H a us) : SqT K H a us := by
  obtain ⟨o, e, _, _⟩ := h
  exact .inl (.inr ⟨o, e⟩)
/-- t + u -/
def rCatF (K : PySem.W.Frag) : R2 := fun x y H Q => ∃ a b xs ys, x = .ref a ∧ y = .ref b ∧ PT H a xs ∧ PT H b ys ∧ xs.length + ys.length ≤ sizeLine ∧
  (xs = [] → Q (.ref b) H) ∧ (xs ≠ [] → ys = [] → Q (.ref a) H) ∧ (xs ≠ [] → ys ≠ [] → ∀ p (o : Obj), H p = none → o.cls = .type "tuple" → o.dict = none → Q (.ref p) (upd H p (.frz o (.tup (xs ++ ys)))))
theorem op_catF : OpR X (binaryOp .Add) (rCatF X.K) := by
  intro pins s σ H x y v u Q I rx ry h
  obtain ⟨a, b, xs, ys, rfl, rfl, ha, hb, hz, q0, q1, q2⟩ := h
  cases rx
  cases ry
  obtain ⟨its, r1, p1, _⟩ := I.tuple (pt_sqT ha)
  obtain ⟨its2, r2, p2, _⟩ := I.tuple (pt_sqT hb)
  by_cases hx : xs = []
  · subst hx
    cases r1
    exact cat_tup0 p1 p2 ⟨.ref b, H, I, rfl, q0 rfl⟩
  refine HT.cat_tup p1 p2 (fun z => hx (r1.nil_iff.mp z)) (fun z => ⟨.ref a, H, I, rfl, q1 hx (r2.nil_iff.mp z)⟩) (fun z => ?_) (by rw [← r1.length, ← r2.length]; exact hz)
  refine ⟨.ref s.heap.objs.size, _, I.laid (t' := s.toks) (o := .frz { cls := .type "tuple", data := .seq (its ++ its2).toArray } (.tup (xs ++ ys))) (fun b ob q => Heap.get?_push_of_some _ q) (Nat.le_refl _) ?_, rfl, q2 hx (fun w => z (r2.nil_iff.mpr w)) _ _ (I.hok.fresh (Nat.le_refl _)) rfl rfl⟩
  exact show ObjOk X.prog X.w _ _ _ (.frz _ (.tup (xs ++ ys))) from ⟨Heap.get?_push_size _ rfl, (show ObjOk X.prog X.w _ _ _ (.tup (xs ++ ys)) from ⟨by rw [List.length_append]; exact hz, _, r1.append r2, IsTup.new _ _⟩)⟩
/-- t[lo:hi] -/
def rSlF (K : PySem.W.Frag) : V → Option Int → Option Int → Hp → VK → Prop := fun x lo hi H Q => ∃ a xs, x = .ref a ∧ PT H a xs ∧
  (HT.sIx xs.length 0 lo = 0 ∧ HT.sIx xs.length xs.length hi = xs.length → Q (.ref a) H) ∧ (¬ (HT.sIx xs.length 0 lo = 0 ∧ HT.sIx xs.length xs.length hi = xs.length) → ∀ p (o : Obj), H p = none → o.cls = .type "tuple" → o.dict = none → Q (.ref p) (upd H p (.frz o (.tup (cutV xs lo hi)))))
theorem sl_tupF : SlR X (rSlF X.K) := by
  intro pins s σ H x v vl vu lo hi sl Q I rx hs pl pu h
  obtain ⟨a, xs, rfl, hx, q1, q2⟩ := h
  cases rx
  obtain ⟨its, r, ht, hz⟩ := I.tuple (pt_sqT hx)
  have hlen : its.toArray.size = xs.length := by rw [List.size_toArray]; exact r.length.symm
  by_cases hw : HT.sIx xs.length 0 lo = 0 ∧ HT.sIx xs.length xs.length hi = xs.length
  · refine ⟨"tuple", _, PyProof.Rows.slot_tuple_getitem.lookup, ht.typeIs, ?_⟩
    exact getItem_tuple_whole ht hs pl pu (by rw [hlen]; exact hw) ⟨.ref a, H, I, rfl, q1 hw⟩
  · refine ⟨"tuple", _, PyProof.Rows.slot_tuple_getitem.lookup, ht.typeIs, ?_⟩
    refine HT.getItem_tuple_cut ht hs pl pu (by rw [hlen]; exact hw) ?_ (by rw [hlen]; exact hz)
    rw [hlen]
    have r' := (r.drop (HT.sIx xs.length 0 lo)).take (HT.sIx xs.length xs.length hi - HT.sIx xs.length 0 lo)
    refine ⟨.ref s.heap.objs.size, _, I.laid (t' := s.toks) (o := .frz { cls := .type "tuple", data := .seq ((its.drop (HT.sIx xs.length 0 lo)).take (HT.sIx xs.length xs.length hi - HT.sIx xs.length 0 lo)).toArray } (.tup (cutV xs lo hi))) (fun b ob q => Heap.get?_push_of_some _ q) (Nat.le_refl _) ?_, rfl, q2 hw _ _ (I.hok.fresh (Nat.le_refl _)) rfl rfl⟩
    exact show ObjOk X.prog X.w _ _ _ (.frz _ (.tup (cutV xs lo hi))) from ⟨Heap.get?_push_size _ rfl, (show ObjOk X.prog X.w _ _ _ (.tup (cutV xs lo hi)) from ⟨Nat.le_trans (cutV_length xs lo hi) hz, _, r', IsTup.new _ _⟩)⟩
end
end Us
end
set_option maxRecDepth 100000
set_option maxHeartbeats 2000000
namespace Dl
open PySem PySem.Spec PyProof.Rows L2 Us
section
variable {X : Cx} {K : PySem.W.Frag} {W : WX} {pos : Pos} {e x y : Expr} {te ea eb : TE} {t ta tb : DE}
/-! ### tuples known whole -/
def catP : D → D → (D → Prop) → Prop := fun x y P => match x, y with
  | .ptup xs, .ptup ys => xs.length + ys.length ≤ sizeLine ∧ P (.ptup (xs ++ ys))
  | _, _ => False
theorem l_catP : LOp K (rCatF K) catP := fun a B H x y u v P Q s ex ey r k => by
  unfold catP at r
  split at r
  · rename_i xs ys
    have ex' := ex
    have ey' := ey
    obtain ⟨p, us, o, rfl, hp, h1, h2, em⟩ := Emb.ptup ex
    obtain ⟨q, ws, o2, rfl, hq, h3, h4, en⟩ := Emb.ptup ey
    have l1 := em.length
    have l2 := en.length
    refine ⟨p, q, us, ws, rfl, rfl, ⟨o, s _ _ hp, h1, h2⟩, ⟨o2, s _ _ hq, h3, h4⟩, by rw [l1, l2]; exact r.1, fun h0 => ?_, fun _ h0 => ?_, fun _ _ l o3 hl h5 h6 => k _ _ _ _ (Stp.new s hl) (emb_ptup upd_same h5 h6 ((em.append en).mono (Same.new (bfresh s hl)))) r.2⟩
    · have : xs = [] := List.eq_nil_of_length_eq_zero (by rw [← l1, h0]; rfl)
      subst this
      exact k _ B H _ (Stp.refl s) ey' r.2
    · have : ys = [] := List.eq_nil_of_length_eq_zero (by rw [← l2, h0]; rfl)
      subst this
      rw [List.append_nil] at r
      exact k _ B H _ (Stp.refl s) ex' r.2
  · exact r.elim
theorem catF_k (h : X.K = K) : OpR X (binaryOp .Add) (rCatF K) := by subst h; exact op_catF
variable {lo hi : Option Expr} {tl th : TO} {dl dh : DO} {p2 : Pos}
def dSlP (t : DE) (l h : DO) : DE := fun s E P => t s E fun d s1 => l s1 E fun i s2 => h s2 E fun j s3 => match d with
  | .ptup xs => P (.ptup (cutD xs i j)) s3
  | _ => False
theorem de_slP (h : DPE X K W x ea ta) (hl : DPO X K W lo tl dl) (hh : DPO X K W hi th dh) : DPE X K W (.Subscript x (.Slice lo hi none p2) pos) (tSl (rSlF K) ea tl th) (dSlP ta dl dh) :=
  ⟨h.k, by have hk := h.k; subst hk; exact pe_slice sl_tupF h.pe hl.po hh.po, fun a B0 H0 s σ B H E P Q R L ht k => h.sn a B0 H0 s σ B H E _ _ R L ht fun d s1 v B1 H1 f1 em q1 => hl.sn a B0 H0 s1 σ B1 H1 E _ _ f1.rel L q1 fun i s2 i' B2 H2 f2 e2 q2 => hh.sn a B0 H0 s2 σ B2 H2 E _ _ f2.rel L q2 fun j s3 j' B3 H3 f3 e3 q3 => by
    cases e2
    cases e3
    cases d with
    | ptup xs =>
      have em3 := em.mono (f2.stp.bb.trans f3.stp.bb)
      obtain ⟨p, us, o, rfl, hp, h1, h2, r⟩ := Emb.ptup em3
      have sB := f3.rel.gr.bh
      have f := f1.trans (f2.trans f3)
      refine ⟨p, us, rfl, ⟨o, sB _ _ hp, h1, h2⟩, fun e => ?_, fun _ l o3 hl h5 h6 => k _ s3 _ _ _ (f.trans (.pure f3.rel (Stp.new sB hl))) (emb_ptup upd_same h5 h6 ((r.cut i j).mono (Same.new (bfresh sB hl)))) q3⟩
      have le := r.length
      have e2 : cutD xs i j = xs := by
        unfold cutD
        rw [← le, e.1, e.2, List.drop_zero, Nat.sub_zero, List.take_of_length_le (by rw [le]; exact Nat.le_refl _)]
      dsimp only at q3
      rw [e2] at q3
      exact k _ s3 _ B3 H3 f em3 q3
    | _ => exact q3.elim⟩
/-- isinstance(t, tuple) of such a tuple -/
def dIsiP (t : DE) : DE := fun s E P => t s E fun d s1 => match d with
  | .ptup _ => P (.bl true) s1
  | _ => False
theorem de_isiP {p p1 : Pos} (hm : X.mg "isinstance" = none) (hmx : X.mg "tuple" = none) (h : DPE X K W e te t)
    (hg : Gl X "isinstance" := by rfl) (hgx : Gl X "tuple" := by rfl)
    (s1 : starEach [e, .Name "tuple" p1] X.env = (false, eval e X.env) :: starEach [.Name "tuple" p1] X.env := by rfl) (s2 : starEach [.Name "tuple" p1] X.env = (false, eval (.Name "tuple" p1) X.env) :: starEach [] X.env := by rfl) (hpl : (backTo pos (starEach [.Name "tuple" p1] X.env)).any (·.1) = false := by rfl) :
    DPE X K W (.Call (.Name "isinstance" p) [e, .Name "tuple" p1] [] pos) (tCB (rIsi K) (tCons te (tCons (tC (.ty "tuple")) tNil))) (dIsiP t) :=
  ⟨h.k, by have hk := h.k; subst hk; exact pe_callB call_isi hg hm (by decide +kernel) (pa_cons h.pe (pa_cons (pe_bltn hgx hmx (by decide +kernel) rfl (by decide) (by decide)) pa_nil s2) s1) (by decide) (by decide) s1 hpl, fun a B0 H0 s σ B H E P Q R L ht k =>
    h.sn a B0 H0 s σ B H E _ _ R L ht fun d s1 v B1 H1 f em q => by
      cases d with
      | ptup xs =>
        obtain ⟨p, us, o, rfl, hp, h1, h2, r⟩ := Emb.ptup em
        exact ⟨_, _, _, _, true, rfl, .ty "tuple", .fTuple (f.rel.gr.bh _ _ hp), kit_ty (by decide +kernel), k _ s1 _ B1 H1 f emb_bl q⟩
      | _ => exact q.elim⟩
theorem RP.ptupv {a : Addr} {Ho B H : Hp} {xs : List D} {v : V} (h : RP K a Ho B H (.ptup xs) v) : Emb K a B (.ptup xs) v := by
  rcases h with h | ⟨_, _, _, e, _⟩ | ⟨_, _, _, _, e, _⟩
  · exact h
  · cases e
  · cases e
def lenP : D → (D → Prop) → Prop := fun x P => match x with
  | .ptup xs => P (.int xs.length)
  | _ => False
theorem l_lenP : LCallP K (rLenU K) lenP := fun a B H x u P Q s ex r k => by
  unfold lenP at r
  split at r
  · obtain ⟨p, us, o, rfl, hp, h1, h2, em⟩ := Emb.ptup (RP.ptupv ex)
    exact ⟨p, us, rfl, .inr (pt_sqT ⟨o, s _ _ hp, h1, h2⟩), by rw [em.length]; exact k _ B H _ (Stp.refl s) emb_int r⟩
  · exact r.elim
def lisP : D → (List D → Prop) → Prop := fun x P => match x with
  | .ptup xs => P xs
  | _ => False
theorem l_listP : LCallPN K (rListU K) lisP := fun a B H x u P Q s ex r k => by
  unfold lisP at r
  split at r
  · obtain ⟨p, us, o, rfl, hp, h1, h2, em⟩ := Emb.ptup (RP.ptupv ex)
    exact ⟨p, us, rfl, .inr (pt_sqT ⟨o, s _ _ hp, h1, h2⟩), fun l hl => k _ B _ _ (Stp.cell s hl) ⟨l, us, rfl, upd_same, bfresh s hl, hl, em⟩ r⟩
  · exact r.elim
/-! ### attributes and classes of instances -/
def fldD : List Str → List D → Str → Option D
  | n :: ns, d :: ds, f => if n = f then some d else fldD ns ds f
  | _, _, _ => none
theorem fld_at {a : Addr} {B : Hp} {fs : List (Str × V)} {f : Str} {y : D} : ∀ {ns : List Str} {ds : List D} {us : List V}, ns.map (fun n => fs.lookup n) = us.map some → EmbL K a B ds us → fldD ns ds f = some y → ∃ u, fs.lookup f = some u ∧ Emb K a B y u
  | [], _, _, _, _, h => by cases h
  | n :: ns, [], us, _, _, h => by cases h
  | n :: ns, d :: ds, us, e, em, h => by
    obtain ⟨u, us', rfl, h1, h2⟩ := em.uncons
    rw [List.map_cons, List.map_cons] at e
    injection e with e1 e2
    unfold fldD at h
    by_cases c : n = f
    · rw [if_pos c] at h
      cases h
      subst c
      exact ⟨u, e1, h1⟩
    · rw [if_neg c] at h
      exact fld_at e2 h2 h
def FldOk (K : PySem.W.Frag) (cs : List Str) (f : Str) : Prop := ∀ c ∈ cs, Cls K (He.ga K c) ∧ NoAttr K (He.ga K c) f
def dFld (cs : List Str) (f : Str) (t : DE) : DE := fun s E P => t s E fun d s1 => match d with
  | .ins c ns ds => c ∈ cs ∧ ∃ y, fldD ns ds f = some y ∧ P y s1
  | _ => False
theorem de_fld {cs : List Str} {f : Str} (hc : FldOk K cs f) (h : DPE X K W e te t) (hb : attributeBase e f X.env (eval e X.env) = eval e X.env := by rfl) : DPE X K W (.Attribute e f pos) (tFld K te f) (dFld cs f t) :=
  ⟨h.k, by have hk := h.k; subst hk; exact pe_fld h.pe hb, fun a B0 H0 s σ B H E P Q R L ht k =>
    h.sn a B0 H0 s σ B H E _ _ R L ht fun d s1 v B1 H1 f1 em q => by
      cases d with
      | ins c ns ds =>
        obtain ⟨qc, y, hy, q⟩ := q
        obtain ⟨p, dx, fs, us, rfl, hp, e1, r⟩ := Emb.ins em
        obtain ⟨u, hu, hyu⟩ := fld_at e1 r hy
        exact ⟨p, _, dx, fs, u, rfl, f1.rel.gr.bh _ _ hp, (hc c qc).1, (hc c qc).2, hu, k y s1 u B1 H1 f1 hyu q⟩
      | _ => exact q.elim⟩
/-- isinstance(e, C), e an instance of one of some own classes -/
def IscOk (K : PySem.W.Frag) (x : Str) (cs : List (Str × Bool)) : Prop := ∀ p ∈ cs, OwnC K (He.ga K p.1) ∧ PySem.W.kitOne K (.ref (He.ga K p.1)) (.ref (He.ga K x)) = some p.2
def dIsc (cs : List (Str × Bool)) (t : DE) : DE := fun s E P => t s E fun d s1 => match d with
  | .ins c _ _ => ∃ b, (c, b) ∈ cs ∧ P (.bl b) s1
  | _ => False
theorem de_isc {cs : List (Str × Bool)} {x : Str} {p p1 : Pos} (hc : IscOk K x cs) (hm : X.mg "isinstance" = none) (hmx : X.mg x = some (.ref (He.ga K x))) (h : DPE X K W e te t)
    (hg : Gl X "isinstance" := by rfl) (hgx : Gl X x := by rfl) (hdb : (x == ("__debug__" : Str)) = false := by decide)
    (s1 : starEach [e, .Name x p1] X.env = (false, eval e X.env) :: starEach [.Name x p1] X.env := by rfl) (s2 : starEach [.Name x p1] X.env = (false, eval (.Name x p1) X.env) :: starEach [] X.env := by rfl) (hpl : (backTo pos (starEach [.Name x p1] X.env)).any (·.1) = false := by rfl) :
    DPE X K W (.Call (.Name "isinstance" p) [e, .Name x p1] [] pos) (tCB (rIsi K) (tCons te (tCons (tC (.ref (He.ga K x))) tNil))) (dIsc cs t) :=
  ⟨h.k, by have hk := h.k; subst hk; exact pe_callB call_isi hg hm (by decide +kernel) (pa_cons h.pe (pa_cons (pe_glob (v := .ref (He.ga X.K x)) hgx hmx rfl hdb) pa_nil s2) s1) (by decide) (by decide) s1 hpl, fun a B0 H0 s σ B H E P Q R L ht k =>
    h.sn a B0 H0 s σ B H E _ _ R L ht fun d s1 v B1 H1 f em q => by
      cases d with
      | ins c ns ds =>
        obtain ⟨b, qb, q⟩ := q
        obtain ⟨p, dx, fs, us, rfl, hp, e1, r⟩ := Emb.ins em
        obtain ⟨c0, hk⟩ := hc _ qb
        exact ⟨_, _, _, _, b, rfl, .own _, .base (.ins (f.rel.gr.bh _ _ hp) c0.cl c0.ha c0.hn c0.ht c0.hm), hk, k _ s1 _ B1 H1 f emb_bl q⟩
      | _ => exact q.elim⟩
/-- isinstance(e, (C1, C2)) -/
def IscOk2 (K : PySem.W.Frag) (x y : Str) (cs : List Str) : Prop := ∀ c ∈ cs, OwnC K (He.ga K c) ∧ PySem.W.kitAny K (.ref (He.ga K c)) [.ref (He.ga K x), .ref (He.ga K y)] = some true
def dIsc2 (cs : List Str) (t : DE) : DE := fun s E P => t s E fun d s1 => match d with
  | .ins c _ _ => c ∈ cs ∧ P (.bl true) s1
  | _ => False
theorem de_isc2 {cs : List Str} {x y : Str} {p p1 p2 tp : Pos} {c0 : Nat} (hc : IscOk2 K x y cs) (hm : X.mg "isinstance" = none) (hmx : X.mg x = some (.ref (He.ga K x))) (hmy : X.mg y = some (.ref (He.ga K y))) (h : DPE X K W e te t)
    (hg : Gl X "isinstance" := by rfl) (hgx : Gl X x := by rfl) (hgy : Gl X y := by rfl) (hdb : (x == ("__debug__" : Str)) = false := by decide) (hdb' : (y == ("__debug__" : Str)) = false := by decide)
    (s1 : starEach [e, .Tuple [.Name x p1, .Name y p2] c0 tp] X.env = (false, eval e X.env) :: starEach [.Tuple [.Name x p1, .Name y p2] c0 tp] X.env := by rfl) (s2 : starEach [.Tuple [.Name x p1, .Name y p2] c0 tp] X.env = (false, eval (.Tuple [.Name x p1, .Name y p2] c0 tp) X.env) :: starEach [] X.env := by rfl)
    (s3 : starEach [.Name x p1, .Name y p2] X.env = (false, eval (.Name x p1) X.env) :: starEach [.Name y p2] X.env := by rfl) (s4 : starEach [.Name y p2] X.env = (false, eval (.Name y p2) X.env) :: starEach [] X.env := by rfl) (hpl : (backTo pos (starEach [.Tuple [.Name x p1, .Name y p2] c0 tp] X.env)).any (·.1) = false := by rfl) :
    DPE X K W (.Call (.Name "isinstance" p) [e, .Tuple [.Name x p1, .Name y p2] c0 tp] [] pos) (tCB (rIsiT K) (tCons te (tCons (tTup (tCons (tC (.ref (He.ga K x))) (tCons (tC (.ref (He.ga K y))) tNil))) tNil))) (dIsc2 cs t) :=
  ⟨h.k, by have hk := h.k; subst hk; exact pe_callB call_isiT hg hm (by decide +kernel) (pa_cons h.pe (pa_cons (pe_tup (pa_cons (pe_glob (v := .ref (He.ga X.K x)) hgx hmx rfl hdb) (pa_cons (pe_glob (v := .ref (He.ga X.K y)) hgy hmy rfl hdb') pa_nil s4) s3)) pa_nil s2) s1) (by decide) (by decide) s1 hpl, fun a B0 H0 s σ B H E P Q R L ht k =>
    h.sn a B0 H0 s σ B H E _ _ R L ht fun d s1 v B1 H1 f em q => by
      cases d with
      | ins c ns ds =>
        obtain ⟨p, dx, fs, us, rfl, hp, e1, r⟩ := Emb.ins em
        obtain ⟨c0, hk⟩ := hc _ q.1
        refine ⟨by show 2 ≤ sizeLine; decide, fun q0 hq0 => ?_⟩
        exact ⟨_, q0, _, _, _, true, rfl, upd_same, .cons (.own _) (.cons (.own _) .nil), .base (.ins (by rw [upd_ne (fun z => by subst z; rw [f.rel.gr.bh _ _ hp] at hq0; cases hq0)]; exact f.rel.gr.bh _ _ hp) c0.cl c0.ha c0.hn c0.ht c0.hm), hk, k _ s1 _ B1 _ (f.trans (.pure f.rel (Stp.cell f.rel.gr.bh hq0))) emb_bl q.2⟩
      | _ => exact q.elim⟩
/-! ### an instance is made -/
def toNew (K : PySem.W.Frag) (C : Str) (dsp : DSp) : Sp := fun vs H Q _ => ∃ (a : Addr) (B : Hp) (ds : List D) (x dx : Addr) (H0 : Hp) (P : D → Prop) (us : List V), H0 x = none ∧ H0 dx = none ∧ dx ≠ x ∧ H = upd (upd H0 dx (.own x)) x (.ins (He.ga K C) dx []) ∧ vs = .ref x :: us ∧ Same B H0 ∧ HandOk B H0 a ∧ EmbL K a B ds us ∧ dsp ds P (fun _ => False) ∧
  ∀ d, P d → ∀ B' H', Stp (Isa a) B H0 B' H' → HandOk B' H' a → Emb K a B' d (.ref x) → Q .non H'
theorem de_new {k : Nat} {f : Addr} {fd : FuncData} {ps : List Str} {C : Str} {dsp : DSp} {p : Pos} {es : List Expr} {ta : TA} {td : DA} (M : Mk X.K (He.ga K C) f) (F : FnOk X.prog X.w X.K X.mg X.base (L2.CX X.prog X.w) k f fd ps (toNew K C dsp)) (hr : Room (k + 1) X.A) (hm : X.mg C = some (.ref (He.ga K C))) (hb : L2.Binds X.K fd ps [])
    (ha : DPA X K W (e :: es) ta td) (hg : Gl X C := by rfl) (hdb : (C == ("__debug__" : Str)) = false := by decide) (he : starEach (e :: es) X.env = (false, eval e X.env) :: starEach es X.env := by rfl) (hpl : (backTo pos (starEach es X.env)).any (·.1) = false := by rfl) :
    DPE X K W (.Call (.Name C p) (e :: es) [] pos) (tMake (He.ga K C) (toNew K C dsp) [] (fun _ _ _ => False) ta) (dCall0 dsp td) :=
  ⟨ha.k, by have hk := ha.k; subst hk; exact pe_make M F hr hg hm hb .nil passNo ha.pe hdb he hpl, fun a B0 H0 s σ B H E P Q R L ht kk =>
    ha.sn a B0 H0 s σ B H E _ _ R L ht fun ds s1 vs B1 H1 f1 em q => by
      intro x dx hx hdx hne
      rw [List.append_nil]
      refine ⟨a, B1, ds, x, dx, H1, _, vs, hx, hdx, hne, rfl, rfl, f1.rel.gr.bh, f1.rel.hand, em, q, fun d pd B2 H2 g hh e2 => ⟨rfl, kk d s1 _ B2 H2 (f1.trans (.call f1.rel g hh)) e2 pd⟩⟩⟩
end
end Dl
set_option maxRecDepth 100000
set_option maxHeartbeats 4000000
/-! len of a set of texts -/
noncomputable section
namespace Us
open PySem PySem.Spec PyProof.Rows L2 PySem.Froz
section
variable {X : Cx}
def rLenTx (P : Program) (w : World) : List V → Hp → VK → Prop := fun vs H Q => ∃ (a : Addr) (l : List Str), vs = [V.ref a] ∧ H a = some (SetTx P w a l) ∧ l.length ≤ 1000 ∧ Q (.int l.length) H
theorem cr_lenTx : CallR X (.builtin "len") (rLenTx X.prog X.w) := by
  intro pins s σ H vs us Q I r h
  obtain ⟨a, l, rfl, ha, hl, q⟩ := h
  obtain ⟨⟨⟨es, ep, t⟩, ho, F, hr, hd⟩, nd⟩ : TxS X.prog X.w s.heap a l := (I.hok a _ ha).1
  rw [Vals.ref1 r]
  have hsz : es.size = l.length := F.sz
  refine call_len_set ho ⟨rfl, rfl, rfl⟩ rfl F.fit (by show (es.size : Int) < 2 ^ 63; omega) ⟨.int l.length, H, I.tok _, ⟨_, by show Value.int (es.size : Int) _ = _; rw [hsz]⟩, q⟩
end
end Us
end
set_option maxRecDepth 100000
set_option maxHeartbeats 2000000
namespace Dl
open PySem PySem.Spec PyProof.Rows L2 Us
section
variable {X : Cx} {K : PySem.W.Frag} {W : WX} {pos p p2 cpos p1 : Pos} {e : Expr} {te : TE} {t : DE}
/-- len(set(xs)), xs texts -/
def dLenSet (t : DE) : DE := fun s E P => t s E fun d s1 => match d with
  | .lst ds => (match strsD ds with
    | some zs => zs.length ≤ 1000 ∧ ∀ ys : List Str, ys.Nodup → (∀ z, z ∈ ys ↔ z ∈ zs) → P (.int ys.length) s1
    | none => False)
  | _ => False
theorem de_lenSet (hc : X.calm = true) (hm1 : X.mg "len" = none) (hm2 : X.mg "set" = none) (h : DPE X K W e te t) (hg1 : Gl X "len" := by rfl) (hg2 : Gl X "set" := by rfl)
    (s1 : starEach [.Call (.Name "set" p2) [e] [] cpos] X.env = (false, eval (.Call (.Name "set" p2) [e] [] cpos) X.env) :: starEach [] X.env := by rfl) (hpl : (backTo pos (starEach [] X.env)).any (·.1) = false := by rfl)
    (s2 : starEach [e] X.env = (false, eval e X.env) :: starEach [] X.env := by rfl) (hpl2 : (backTo cpos (starEach [] X.env)).any (·.1) = false := by rfl) :
    DPE X K W (.Call (.Name "len" p) [.Call (.Name "set" p2) [e] [] cpos] [] pos) (tCB (rLenTx X.prog X.w) (tCons (tCB (rSetTx K X.prog X.w) (tCons te tNil)) tNil)) (dLenSet t) :=
  ⟨h.k, by have hk := h.k; subst hk; exact pe_callB cr_lenTx hg1 hm1 (by decide +kernel) (pa_cons (pe_callTy (cr_setTx hc) hg2 hm2 (by decide +kernel) (pa_cons h.pe pa_nil s2) (by decide) (by decide) s2 hpl2) pa_nil s1) (by decide) (by decide) s1 hpl, fun a B0 H0 s σ B H E P Q R L ht k =>
    h.sn a B0 H0 s σ B H E _ _ R L ht fun d s1 v B1 H1 f em q => by
      cases d with
      | lst ds =>
        dsimp only at q
        cases hz : strsD ds with
        | none => rw [hz] at q; exact q.elim
        | some zs =>
          rw [hz] at q
          obtain ⟨h64, q⟩ := q
          obtain ⟨l, us, rfl, hp, hv⟩ := Emb.lst em
          have eu := strs_V hv hz
          subst eu
          refine ⟨l, zs, rfl, SqL.of (f.rel.gr.bh _ _ hp), by unfold scanBound; omega, fun b ys hb nd mem len => ?_⟩
          have g1 := Stp.cell (W := No) (o := SetTx X.prog X.w b ys) f.rel.gr.bh hb
          have f1 := f.trans (.pure f.rel g1)
          exact ⟨b, ys, rfl, upd_same, by omega, k _ s1 _ B1 _ f1 emb_int (q ys nd mem)⟩
      | _ => exact q.elim⟩
/-! d.get(k) -/
def dGet1V (i : Nat) (t : DE) : DE := fun s E P => (gS s i).isD = true ∧ t s E fun d s1 => keyP d fun k => dctP (gS s1 i) fun ks ds => P ((lkD ks ds k).getD .non) s1
theorem de_dget1V {x : Str} {i : Nat} {ee : TE} {te : DE} (hu : X.A.units + 1 < cLine) (ho : PE X (.Name x p1) (tVar i)) (h : DPE X K W e ee te)
    (hm : M1 X (.Name x p1) "get" p2 e cpos := by constructor <;> rfl) : DPE X K W (.Call (.Attribute (.Name x p1) "get" p2) [e] [] cpos) (tDGet1 (tVar i) ee) (dGet1V i te) :=
  ⟨h.k, pe_dget1 hu ho h.pe hm, fun a B0 H0 s σ B H E P Q R L ⟨hi, ht⟩ k => by
    obtain ⟨p, kvs0, eu, hp0⟩ := isD_slot R.gr.bh (R.slot i) hi
    refine ⟨_, join_some eu, p, rfl, .inl ⟨kvs0, .inl hp0⟩, h.sn a B0 H0 s σ B H E _ _ R L ht fun d s1 v B1 H1 f1 ev q => ?_⟩
    obtain ⟨ky, hk, q⟩ := keyP_at q
    obtain ⟨p', kvs, ks, ds, eo, hp, ek, el, q⟩ := dctP_at f1.rel.gr.bh (f1.rel.slot i) q
    rw [eu] at eo
    cases eo
    subst ek
    have lk := lk_V el ky
    refine ⟨_, by rw [key_V hk ev]; exact dgetR hp, ?_⟩
    cases hy : lkD (kvs.map (·.1)) ds ky with
    | some y =>
      rw [hy] at lk q
      obtain ⟨u, hu', eu'⟩ := lk
      rw [hu']
      exact k y s1 u B1 H1 f1 eu' q
    | none =>
      rw [hy] at lk q
      rw [lk]
      exact k .non s1 .non B1 H1 f1 emb_non q⟩
end
end Dl
set_option maxRecDepth 100000
set_option maxHeartbeats 2000000
/-! defs that give a new list -/
namespace Dl
open PySem PySem.Spec PyProof.Rows L2 Us
abbrev DSpN := List D → (List D → Prop) → (Exc → Prop) → Prop
def toSpN (K : PySem.W.Frag) (dsp : DSpN) : Sp := fun vs H Q E => ∃ a B ds P Xx, Same B H ∧ HandOk B H a ∧ EmbL K a B ds vs ∧ dsp ds P Xx ∧
  (∀ xs, P xs → ∀ B' H' v, Stp (Isa a) B H B' H' → HandOk B' H' a → RN K a H B' H' xs v → Q v H') ∧
  (∀ x, Xx x → ∀ B' H' cls dd, Stp (Isa a) B H B' H' → HandOk B' H' a → XEmb K a B' H' x cls dd → E cls dd H')
def dCall0N (dsp : DSpN) (t : DA) : DA := fun s E P => t s E fun ds s1 => dsp ds (fun d => P d s1) (fun _ => False)
def dRetNL (t : DA) : DS := fun D s => t s D.ex fun d _ => D.rn d
section
variable {X : Cx} {K : PySem.W.Frag} {W : WX} {CX : CXT} {k : Nat} {x : Str} {ps : List Str} {dsp : DSpN} {E : XK} {p pos : Pos} {e : Expr} {es : List Expr} {ta : TA} {td : DA}
theorem ds_retNL {te : TE} {t : DA} (he : DPN X K W e te t) : DPS X K W (.Return (some e) pos) (tRet te) (dRetNL t) := ⟨he.k, ps_ret he.pe, fun a B0 H0 s σ B H D' D R L ok ht =>
  he.sn a B0 H0 s σ B H _ _ _ R L ht fun d s1 v B1 H1 f ek q => by
    obtain ⟨p, us, e, h1, h2, h3, h4⟩ := ek
    exact ok.rn d v B1 H1 f.rel.gr f.rel.hand ⟨p, us, e, h1, h2, R.gr.fresh h3, h4⟩ q⟩
/-- an own list is returned -/
def ownNP (sl : Sl) (P : List D → Prop) : Prop := match sl with
  | .own xs => P xs
  | _ => False
def dOwnN (i : Nat) : DA := fun s _ P => ownNP (gS s i) fun xs => P xs s
theorem ds_retNLV {nm : Str} {p1 : Pos} {i : Nat} (ho : PE X (.Name nm p1) (tVar i)) (hK : X.K = K := by rfl) : DPS X K W (.Return (some (.Name nm p1)) pos) (tRet (tVar i)) (dRetNL (dOwnN i)) := ⟨hK, ps_ret ho, fun a B0 H0 s σ B H D' D R L ok ht => by
  have hs := R.slot i
  unfold dRetNL dOwnN at ht
  cases q : gS s i with
  | own xs =>
    rw [q] at ht hs
    obtain ⟨p, us, e, h1, h2, h3, h4⟩ := hs
    exact ⟨_, join_some e, ok.rn xs _ B H R.gr R.hand ⟨p, us, rfl, h1, h2, h3, h4⟩ ht⟩
  | _ => rw [q] at ht; exact ht.elim⟩
theorem snd_call0N {E : XK} (h : Snd K W (RA K) ta td) : Snd K W (RN K) (tCall (toSpN K dsp) [] E ta) (dCall0N dsp td) := fun a B0 H0 s σ B H E' P Q R L ht kk =>
  h a B0 H0 s σ B H E' _ _ R L ht fun ds s1 vs B1 H1 f em q => by
    rw [List.append_nil]
    exact ⟨a, B1, ds, _, _, f.rel.gr.bh, f.rel.hand, em, q, fun d pd B2 H2 v g hh e2 => kk d s1 v B2 H2 (f.trans (.call f.rel g hh)) (RN.up f.stp e2) pd, fun _ z => z.elim⟩
theorem dn_call0 (Df : DefOk X.prog X.w X.K X.mg X.base CX0 k x ps (toSpN K dsp)) (hr : Room k X.A) (ha : DPA X K W (e :: es) ta td) (hg : Gl X x := by rfl)
    (hdb : (x == ("__debug__" : Str)) = false := by decide) (he : starEach (e :: es) X.env = (false, eval e X.env) :: starEach es X.env := by rfl) (hpl : (backTo pos (starEach es X.env)).any (·.1) = false := by rfl) :
    DPN X K W (.Call (.Name x p) (e :: es) [] pos) (tCall (toSpN K dsp) [] E0 ta) (dCall0N dsp td) := ⟨ha.k, pe_callD Df hr hg pass0 ha.pe hdb he hpl, snd_call0N ha.sn⟩
end
section
variable {P : Program} {w : World} {K : PySem.W.Frag} {mg : Str → Option Value} {base : Heap}
theorem _root_.Us.DefAt.dlN {x : Str} {st : Stmt} {N ps : List Str} {k : Nat} {dsp : DSpN} (F : DefAt K mg x st) (S : FnScope N ps (defScope st))
    (hb : ∀ (kV doc pm : Value) (an : Option Addr) (cdv ct : Value) (us : List Value), us.length = ps.length → bindArgs (PySem.W.fnOf x x (defArgs st) (defBody st) (defScope st) .none kV doc pm an cdv ct) ⟨us, []⟩ = pure (ps.zip us))
    (len : ∀ ds Q E, dsp ds Q E → ds.length = ps.length)
    (body : ∀ (f : Addr) (cdv : Value) (A : Around) (outer : List Env) (s : Shared) (H : Hp) (E : XK), Room k (A.deeper (envOfC x (defScope st) s.heap.objs.size f cdv)) →
      ∃ ts t, DPSs (cxOf CX0 P w K mg base N x (defScope st) f cdv A outer s H E).nox K WXn (defBody st) ts t ∧ ∀ ds Q Xx, dsp ds Q Xx → t { nx := fun _ => False, rt := fun _ => False, rn := Q } (startD N.length ds)) : DefOk P w K mg base CX0 (k + 1) x ps (toSpN K dsp) := by
  refine F.ok S hb (fun vs H Q E h => ?_) fun f cdv A outer s H vs Q E hr h => ?_
  · obtain ⟨a, B, ds, P', Xx, _, _, e, h, _⟩ := h
    rw [e.length]
    exact len _ _ _ h
  · obtain ⟨a, B, ds, P', Xx, hs, hh, e, h, k1, k2⟩ := h
    obtain ⟨ts, t, hd, ht⟩ := body f cdv A outer s H E hr
    refine ⟨ts, PSs.nox hd.ps, ?_⟩
    exact hd.sn a B H _ _ B H { nx := fun _ => False, rt := fun _ => False, rn := P' } _ (start_rel hs hh e) lkn ⟨fun _ _ _ _ _ _ z => z.elim, fun _ _ _ _ _ _ _ z => z.elim, fun _ _ _ _ _ _ z => z.elim, fun _ _ _ _ _ _ z => z.elim, fun _ _ _ _ _ _ _ z => z.elim, fun x v B' H' g hh' e' z => k1 x z B' H' v g hh' e'⟩ (ht ds P' Xx h)
end
end Dl
set_option maxRecDepth 100000
set_option maxHeartbeats 2000000
/-! min(a, b) of two ints; joins: the rest behind a statement that has several ways is walked once -/
namespace Dl
open PySem PySem.Spec PyProof.Rows L2 Us
def rMin2 : List V → Hp → VK → Prop := fun xs H Q => ∃ i j, xs = [.int i, .int j] ∧ Q (.int (if j < i then j else i)) H
def min2D : List D → (D → Prop) → Prop := fun ds P => match ds with
  | [.int i, .int j] => P (.int (if j < i then j else i))
  | _ => False
section
variable {X : Cx} {K : PySem.W.Frag} {W : WX} {pos p : Pos} {e1 e2 : Expr} {te1 te2 : TE} {t1 t2 : DE} {f : Str}
theorem l_min2 : LCall K rMin2 min2D := fun a B H xs us P Q s e r k => by
  match xs, r with
  | [.int i, .int j], r =>
    obtain ⟨u1, u2, rfl, h1, h2⟩ := embl2 e
    cases Emb.int h1
    cases Emb.int h2
    exact ⟨i, j, rfl, k _ B H _ (Stp.refl s) emb_int r⟩
theorem min2_k (hc : X.calm = true) : CallR X (.builtin "min") rMin2 := call_min2 hc
theorem de_min2 (hm : X.mg f = none) (h1 : DPE X K W e1 te1 t1) (h2 : DPE X K W e2 te2 t2) (hc : X.calm = true := by rfl) (hg : Gl X f := by rfl) (hv : bootBuiltins f = some (.builtin "min") := by decide +kernel) (hn : f ≠ "__name__" := by decide) (hdb : (f == ("__debug__" : Str)) = false := by decide)
    (he2 : starEach [e2] X.env = (false, eval e2 X.env) :: starEach [] X.env := by rfl) (he : starEach [e1, e2] X.env = (false, eval e1 X.env) :: starEach [e2] X.env := by rfl) (hpl : (backTo pos (starEach [e2] X.env)).any (·.1) = false := by rfl) : DPE X K W (.Call (.Name f p) [e1, e2] [] pos) (tCB rMin2 (tCons te1 (tCons te2 tNil))) (dCB min2D (dCons t1 (dCons t2 dNil))) :=
  have H := da_cons h1 (da_cons h2 (da_nil h1.k) he2) he
  ⟨h1.k, pe_callB (min2_k hc) hg hm hv H.pe hn hdb he hpl, snd_cb l_min2 H.sn⟩
/-- what holds behind a statement, named: the rest is walked once -/
def dJoin (t : DS) : DS := fun D s => ∃ J : List Sl → Prop, (∀ G : List Sl → Prop, (∀ s, J s → G s) → t { D with nx := G } s) ∧ ∀ s, J s → D.nx s
theorem ds_join {st : Stmt} {ts : TS} {t : DS} (h : DPS X K W st ts t) : DPS X K W st ts (dJoin t) := ⟨h.k, h.ps, fun a B0 H0 s σ B H D' D R L ok ht =>
  let ⟨_, h1, h2⟩ := ht
  h.sn a B0 H0 s σ B H D' D R L ok (h1 D'.nx h2)⟩
def dJoinE (t : DE) : DE := fun s E P => ∃ J : Dl.D → List Sl → Prop, (∀ G : Dl.D → List Sl → Prop, (∀ d s, J d s → G d s) → t s E G) ∧ ∀ d s, J d s → P d s
theorem de_join (h : DPE X K W e1 te1 t1) : DPE X K W e1 te1 (dJoinE t1) := ⟨h.k, h.pe, fun a B0 H0 s σ B H E P Q R L ht =>
  let ⟨_, g1, g2⟩ := ht
  h.sn a B0 H0 s σ B H E P Q R L (g1 P g2)⟩
end
end Dl
set_option maxRecDepth 100000
set_option maxHeartbeats 4000000
/-! tuple displays (known whole, or not: by choice), t[::-1] known whole, xs.count(x) of data -/
noncomputable section
namespace Us
open PySem PySem.Spec PyProof.Rows L2
section
variable {X : Cx}
def tTupC (t : TA) : TE := fun σ H Q => t σ H fun xs H1 => xs.length ≤ sizeLine ∧ ((∀ p, H1 p = none → Q (.ref p) (upd H1 p (.tup xs))) ∨ (∀ p (o : Obj), H1 p = none → o.cls = .type "tuple" → o.dict = none → Q (.ref p) (upd H1 p (.frz o (.tup xs)))))
theorem pe_tupC {es : List Expr} {t : TA} {x1} {pos : Pos} (h : PA X es t) : PE X (.Tuple es x1 pos) (tTupC t) := by
  refine ⟨fun pins s σ H Q I hq => ?_⟩
  refine wpAny_Tuple_spliced (thn (h.run pos pins s σ H _ I hq) fun us s1 ⟨xs, H1, I1, r, z, q⟩ => ⟨by rw [← r.length]; exact z, ?_⟩)
  have hf : H1 s1.heap.objs.size = none := I1.hok.fresh (Nat.le_refl _)
  rcases q with q | q
  · refine ⟨.ref s1.heap.objs.size, upd H1 s1.heap.objs.size (.tup xs), I1.laid (t' := s1.toks) (fun b u e => Heap.get?_push_of_some _ e) (Nat.le_refl _) ?_, rfl, q _ hf⟩
    exact ⟨z, us, r, ⟨_, Heap.get?_push_size _ rfl, rfl, _, rfl⟩⟩
  · refine ⟨.ref s1.heap.objs.size, _, I1.laid (t' := s1.toks) (o := .frz { cls := .type "tuple", data := .seq us.toArray } (.tup xs)) (fun b u e => Heap.get?_push_of_some _ e) (Nat.le_refl _) ?_, rfl, q _ _ hf rfl rfl⟩
    exact show ObjOk X.prog X.w _ _ _ (.frz _ (.tup xs)) from ⟨Heap.get?_push_size _ rfl, (show ObjOk X.prog X.w _ _ _ (.tup xs) from ⟨z, us, r, IsTup.new _ _⟩)⟩
def tRevF (te : TE) : TE := fun σ H Q => te σ H fun x H1 => ∃ a xs, x = .ref a ∧ Us.PT H1 a xs ∧ ∀ p (o : Obj), H1 p = none → o.cls = .type "tuple" → o.dict = none → Q (.ref p) (upd H1 p (.frz o (.tup xs.reverse)))
theorem pe_revF {e : Expr} {te : TE} {k : Nat} {p1 p2 p3 pos : Pos} (he : PE X e te) : PE X (.Subscript e (.Slice none none (some (.UnaryOp .USub (.Constant (.int 1) k p1) p2)) p3) pos) (tRevF te) := by
  refine ⟨fun pins s σ H Q I h => ?_⟩
  refine Subscript_ (thn (he.run pins s σ H _ I h) fun v s1 ⟨x, H1, I1, r1, q1⟩ => ?_)
  obtain ⟨a, xs, ex, hx, q⟩ := q1
  subst ex
  cases r1
  have hst : PO X (some (.UnaryOp .USub (.Constant (.int 1) k p1) p2)) (tPart (tUn (rU fun i => .int (-i)) (tC (.int 1)))) := po_some (pe_un un_neg pe_int)
  refine wpAny_Slice (thn (po_none.run pins s1 σ H1 (fun o H2 => o = none ∧ H2 = H1) I1 ⟨rfl, rfl⟩) fun vl s2 ⟨l, H2, I2, pl, el, e2⟩ => ?_)
  subst el e2
  refine thn (po_none.run pins s2 σ H2 (fun o H3 => o = none ∧ H3 = H2) I2 ⟨rfl, rfl⟩) fun vu s3 ⟨u, H3, I3, pu, eu, e3⟩ => ?_
  subst eu e3
  refine thn (hst.run pins s3 σ H3 (fun o H4 => o = some (-1) ∧ H4 = H3) I3 ⟨1, rfl, -1, rfl, rfl, rfl⟩) fun vs s4 ⟨o, H4, I4, ps, eo, e4⟩ => ?_
  subst eo e4
  cases pl
  cases pu
  have I5 : Inv X pins σ H4 { s4 with heap := s4.heap.push { cls := .type "slice", data := .fields #[.none, .none, vs] } } := I4.kept (t' := s4.toks) fun b ob q => Heap.get?_push_of_some _ q
  obtain ⟨its, r, ht, hz⟩ := I5.tuple (pt_sqT (K := X.K) hx)
  have hlen := r.length
  show wpAny (model X.prog X.w) X.A (subscriptTail e (.Slice none none (some (.UnaryOp .USub (.Constant (.int 1) k p1) p2)) p3) (.ref a) (.ref s4.heap.objs.size)) (EP X pins σ Q) X.xe { s4 with heap := s4.heap.push { cls := .type "slice", data := .fields #[.none, .none, vs] } }
  refine tail_any (ops := [.ref a, .ref s4.heap.objs.size]) ht.typeIs (PyProof.Rows.slot_tuple_getitem.lookup) ?_ (by with_unfolding_all rfl)
  refine HT.getItem_tuple_rev ht (Heap.IsSliceOf.new _ .none .none vs) ps ?_ (by rw [List.size_toArray]; omega)
  refine ⟨.ref _, _, I5.laid (t' := s4.toks) (o := .frz { cls := .type "tuple", data := .seq its.toArray.toList.reverse.toArray } (.tup xs.reverse)) (fun b ob q => Heap.get?_push_of_some _ q) (Nat.le_refl _) ?_, rfl, q _ _ (I5.hok.fresh (Nat.le_refl _)) rfl rfl⟩
  exact show ObjOk X.prog X.w _ _ _ (.frz _ (.tup xs.reverse)) from ⟨Heap.get?_push_size _ rfl, (show ObjOk X.prog X.w _ _ _ (.tup xs.reverse) from ⟨by rw [List.length_reverse]; exact hz, _, r.reverse, _, Heap.get?_push_size _ rfl, rfl, _, rfl⟩)⟩
/-- l.count(x), items data of any depth -/
def rCountD (K : PySem.W.Frag) : V → List V → Hp → VK → Prop := fun x xs H Q => ∃ (a : Addr) (y : V) (d : PyData) (ds : List PyData), x = V.ref a ∧ xs = [y] ∧ Dp K H (V.ref a) (.list ds) ∧ Dp K H y d ∧
  SeqAt.shaped (.list ds) = true ∧ SeqAt.shaped d = true ∧ Q (.int ((ds.countP fun z => PyData.eqv z d) : Nat)) H
theorem mt_countD (hu : X.A.units + 65 < cLine) : MtR X "list.count" (rCountD X.K) := by
  intro pins s σ H x xs v us Q I rx rxs h
  obtain ⟨a, y, d, ds, rfl, rfl, hl, hy, sl, sd, q⟩ := h
  cases rx
  cases rxs with
  | cons ry rt =>
    rename_i uy ut
    cases rt
    obtain ⟨bs, r1⟩ := Dp.reads I d y uy hy ry
    have hxs : PyData.canLayAll0 ds = true := SeqAt.canLay_of_shaped sl
    have hroom : X.A.units + 1 + min (PyData.depthAll ds) d.depth < cLine := room_in_shaped sd hu
    cases hl with
    | lst hs ha =>
      obtain ⟨its, rv, ⟨⟨cls, dd, data, sls⟩, n, ho, hc, hdn, hdt⟩, hlen⟩ := I.list hs
      simp only at hc hdt hdn
      subst hc hdt hdn
      obtain ⟨as, h4⟩ := Dp.readsAll I ds _ its ha rv
      have hmap : its.map (SeqAt.readOf s.heap) = ds := SeqAt.readsAll_map ds its as hxs h4
      refine call_meets PySem.F.slot_list_count ⟨_, ho, rfl⟩ PySem.F.entry_list_count (PySem.F.args_list_count_2 _ _) (PySem.SeqAt.list_countAt a its.toArray n none sls uy (fun u => PyData.eqv (SeqAt.readOf s.heap u) d))
        ⟨ho, SeqAt.items_eqAt (vs := its.toArray) (show ReadsAll s.heap its.toArray.toList ds as from h4) r1 hxs (SeqAt.canLay_of_shaped sd) hroom, ?_⟩
      rw [show its.toArray.toList = its from rfl]
      have e : its.countP (fun u => PyData.eqv (SeqAt.readOf s.heap u) d) = ds.countP fun z => PyData.eqv z d := by
        rw [← hmap, List.countP_map]; rfl
      rw [e]
      exact ⟨.int _, H, I.tok _, ⟨_, rfl⟩, q⟩
theorem pe_bmK {K : PySem.W.Frag} {T name id : String} {r : V → List V → Hp → VK → Prop} {o e : Expr} {es : List Expr} {to : TE} {t : TA} {apos cpos : Pos} (pa : PlainAttrs T) (slot : Slot T name id) (hty : typeOf (.builtin id) = pure (.type "method_descriptor")) (hm : MtR X id r) (ho : PE X o to) (ha : PA X (e :: es) t) (hk : X.K = K := by rfl)
    (hbase : attributeBase o name X.env (eval o X.env) = eval o X.env := by rfl)
    (hfew : ((backTo cpos (starEach (e :: es) X.env)).all (fun x => !x.1) && (backToKw cpos (keywordEach [] X.env)).all (fun x => x.1.isSome)
      && decide ((e :: es).length + ([] : List Keyword).length + (if ([] : List Keyword).isEmpty then 0 else 1) < 30)) = true := by rfl)
    (hline : (apos.endLine == cpos.line) = true := by rfl) (hs : starEach (e :: es) X.env = (false, eval e X.env) :: starEach es X.env := by rfl) (hplain : (backTo cpos (starEach es X.env)).any (·.1) = false := by rfl) :
    PE X (.Call (.Attribute o name apos) (e :: es) [] cpos) (tBM K T r to t) := by
  subst hk
  exact pe_bm pa slot hty hm ho ha hbase hfew hline hs hplain
theorem mt_countDK {K : PySem.W.Frag} (hk : X.K = K) (hu : X.A.units + 65 < cLine) : MtR X "list.count" (rCountD K) := by subst hk; exact mt_countD hu
theorem mt_indexDK {K : PySem.W.Frag} (hk : X.K = K) (hu : X.A.units + 65 < cLine) : MtR X "list.index" (rIndexD K) := by subst hk; exact mt_indexD hu
end
end Us
end
set_option maxRecDepth 100000
set_option maxHeartbeats 4000000
/-! x in [..] where some items are instances of x's class with its own __eq__ -/
namespace Us
open PySem PySem.Spec PyProof.Rows L2
section
variable {X : Cx} {C : Addr} {sp : Sp} {E : XK}
theorem notFirst_self {K : PySem.W.Frag} {C : Addr} : PySem.W.notFirst K C (.ref C) = true := by
  unfold PySem.W.notFirst
  simp
theorem eqB_own {CX : CXT} {f : Addr} {fd : FuncData} {ps : List Str} {n : Nat} (F : FnOk X.prog X.w X.K X.mg X.base CX n f fd ps sp) (T : OwnQ X.K C f) (hb : L2.Binds X.K fd ps []) (hx : Passes CX X E) {A : Around} {pins : List (Addr × Obj)} {s : Shared} {σ : L2.St} {H : Hp} {a dx b dy : Addr} {fs gs : List (Str × V)} {Q : Bool → Hp → Prop} (sb : Sub X (n + 1) A) (I : Inv X pins σ H s) (ty : TyX X.K H (.ref a) (.ref C)) (ib : H b = some (.ins C dy gs)) (hne : b ≠ a) (h : EqS sp E (.ref b) (.ref a) H Q) :
    wpAny (model X.prog X.w) A (eqBool (.ref b) (.ref a)) (fun b s' => ∃ H', Inv X pins σ H' s' ∧ Q b H') X.xe s := by
  obtain ⟨mA, J, _⟩ := ins_get I.hok ib
  obtain ⟨od, J, _⟩ := J.look
  obtain ⟨m, hF⟩ := I.fr
  have ry : RelV (.ref a) (.ref a) := rfl
  obtain ⟨P, kx, hP, _⟩ := kit_of I ry ty
  unfold eqBool
  refine wpAny_holding (wpAny_ite_split (fun hab => ?_) fun _ => ?_)
  · have z := eq_of_beq hab
    cases z
    exact absurd rfl hne
  · refine wpAny_bind (PySem.W.cmp_K (op := .Eq) sb.room.units0 hF I.ok.mod.kin J (kx.ty _ _ I.kIn hP) notFirst_self T.eq T.fn ?_)
    refine wpAny_mono (own_call F hb hx (sb.mono (Nat.le_succ n)) (x := .ref b) (u := .ref b) I rfl ry h) (fun r s' q => ?_) fun _ _ x => x
    obtain ⟨b', H', rfl, I', q⟩ := q
    exact wpAny_truthy_bool ⟨H', I', q⟩
def NoneIs2 (K : PySem.W.Frag) (C : Addr) (sp : Sp) (E : XK) (a : Addr) (H : Hp) (y : V) : Prop := NoneIs K C sp E a H y ∨ ∃ b dy gs, y = .ref b ∧ b ≠ a ∧ H b = some (.ins C dy gs) ∧ EqS sp E (.ref b) (.ref a) H fun b H' => b = false ∧ H' = H
theorem in_loop2 {CX : CXT} {f : Addr} {fd : FuncData} {ps : List Str} {n : Nat} (F : FnOk X.prog X.w X.K X.mg X.base CX n f fd ps sp) (T : OwnQ X.K C f) (hb : L2.Binds X.K fd ps []) (hx : Passes CX X E) {A : Around} {pins : List (Addr × Obj)} {σ : L2.St} {H : Hp} {a dx l : Addr} {fs : List (Str × V)} {xs : List V} {R : Result → Shared → Prop}
    (sb : Sub X (n + 2) A) (ha : H a = some (.ins C dx fs)) (hty : TyX X.K H (.ref a) (.ref C)) (hl : H l = some (.lst xs)) (hn : ∀ y ∈ xs, NoneIs2 X.K C sp E a H y) (hR : ∀ s', Inv X pins σ H s' → R (.ok (.ret (.bool false))) s') (hE : ∀ e s', X.xe e s' → R (.error e) s') (k : Nat) :
    ∀ i : Nat, xs.length - i = k → ∀ s, Inv X pins σ H s → wpAny (model X.prog X.w) A.in1 (Builtin.«list.__contains__.loop» ⟨[.ref l, .ref a, rawInt i], []⟩) (GQ.FinOf X.prog X.w A R) (fun e s' => R (.error e) s') s := by
  induction k with
  | zero =>
    intro i hk s I
    obtain ⟨z, its, m, r, e⟩ := I.hok l _ hl
    have hR' := hR s I
    obtain ⟨hp, g, d, tk, os⟩ := s
    wp_walk using PySem.AutoSeq1.wpAny_loadPart' e
    have hlen := r.length
    have hi : its.toArray[((i : Nat) : Int).toNat]? = none := by simp; omega
    rw [hi]
    wp_walk
    exact hR'
  | succ k ih =>
    intro i hk s I
    obtain ⟨z, its, m, r, e⟩ := I.hok l _ hl
    have hlen := r.length
    have hlt : i < its.length := by omega
    have hlx : i < xs.length := by omega
    obtain ⟨u, hu, ru⟩ := r.get (List.getElem?_eq_getElem hlx)
    have hi : its.toArray[((i : Nat) : Int).toNat]? = some u := by simpa using hu
    have step : wpAny (model X.prog X.w) A.in1 (eqBool u (.ref a)) (fun b s' => ∃ H', Inv X pins σ H' s' ∧ b = false ∧ H' = H) X.xe s := by
      rcases hn _ (List.getElem_mem hlx) with ⟨dy, hy⟩ | ⟨b, dy, gs, ey, hne, ib, hy⟩
      · exact eqB_right F T hb hx (A := A.in1) (pins := pins) (s := s) (σ := σ) (v := u) ⟨sb.room.in1, sb.fr⟩ I ha dy ru hy
      · rw [ey] at ru
        cases ru
        exact eqB_own F T hb hx (A := A.in1) (pins := pins) (s := s) (σ := σ) (dx := dx) (fs := fs) ⟨sb.room.in1, sb.fr⟩ I hty ib hne hy
    obtain ⟨hp, g, d, tk, os⟩ := s
    wp_walk using PySem.AutoSeq1.wpAny_loadPart' e
    rw [hi]
    refine wpAny_bind (wpAny_mono step (fun b s2 q => ?_) fun e' s' x => hE e' s' x)
    obtain ⟨H', I', rfl, rfl⟩ := q
    have hc : ((i : Int) + 1) = ((i + 1 : Nat) : Int) := by omega
    have hrec := ih (i + 1) (by omega) s2 I'
    obtain ⟨hp2, g2, d2, tk2, os2⟩ := s2
    wp_walk
    rw [hc]
    exact ⟨plainId_quiet PySem.MeetsSeq.plain_contains_loop _, codeAny_builtin PySem.MeetsSeq.entry_contains_loop (by
      rw [Around.under_plainId PySem.MeetsSeq.plain_contains_loop _]
      exact hrec)⟩
def rInO2 (K : PySem.W.Frag) (C : Addr) (sp : Sp) (E : XK) : R2 := fun x y H Q => ∃ a dx fs l xs, x = .ref a ∧ H a = some (.ins C dx fs) ∧ TyX K H (.ref a) (.ref C) ∧ y = .ref l ∧ H l = some (.lst xs) ∧ (∀ y ∈ xs, NoneIs2 K C sp E a H y) ∧ Q (.bl false) H
theorem op_inO2 {CX : CXT} {f : Addr} {fd : FuncData} {ps : List Str} {n : Nat} (F : FnOk X.prog X.w X.K X.mg X.base CX n f fd ps sp) (T : OwnQ X.K C f) (hb : L2.Binds X.K fd ps []) (hx : Passes CX X E) (hr : Room (n + 2) X.A) : OpR X (compareOp .In) (rInO2 X.K C sp E) := by
  intro pins s σ H x y u v Q I rx ry h
  obtain ⟨a, dx, fs, l, xs, rfl, ha, hty, rfl, hl, hn, q⟩ := h
  cases rx
  cases ry
  obtain ⟨z, its, m, r, e⟩ := I.hok l _ hl
  show wpAny (model X.prog X.w) X.A (do return Value.bool (← contains (.ref l) (.ref a))) (EP X pins σ Q) X.xe s
  refine wpAny_bind (wpAny_contains_slot (T := "list") ⟨_, e, rfl⟩ PySem.F.slot_list_contains ?_)
  have hrec := in_loop2 (R := wants (fun r s' => wpAny (model X.prog X.w) X.A (truthy r) (fun b s' => wpAny (model X.prog X.w) X.A (pure (Value.bool b)) (EP X pins σ Q) X.xe s') X.xe s') X.xe) F T hb hx (A := X.A) ⟨hr, rfl⟩ ha hty hl hn
    (fun s' I' => wpAny_truthy_bool (wpAny_pure ⟨.bl false, H, I', rfl, q⟩)) (fun e s' x => x) _ 0 rfl s I
  refine GQ.call_here PySem.F.slot_list_contains ⟨_, e, rfl⟩ PySem.F.entry_list_contains (PySem.F.args_list_contains_2 _ _) ?_
  obtain ⟨hp, g, d, tk, os⟩ := s
  wp_walk using PySem.AutoSeq1.wpAny_loadPart' e
  exact ⟨plainId_quiet PySem.MeetsSeq.plain_contains_loop _, codeAny_builtin PySem.MeetsSeq.entry_contains_loop (by
    rw [Around.under_plainId PySem.MeetsSeq.plain_contains_loop _]
    exact hrec)⟩
end
end Us
set_option maxRecDepth 100000
set_option maxHeartbeats 2000000
/-! tuple displays known whole or not (by choice), t[::-1], ==, != of tuples known whole; isinstance of anything; constructors that raise; ==, !=, in by an own __eq__ -/
namespace Dl
open PySem PySem.Spec PyProof.Rows L2 Us
section
variable {X : Cx} {K : PySem.W.Frag} {W : WX} {pos : Pos} {x y e : Expr} {ea eb te : TE} {ta tb t : DE} {i : Nat} {nm : Str} {p1 : Pos}
/-! ### tuples known whole -/
def dTupC (t : DA) : DE := fun s E P => t s E fun xs s1 => xs.length ≤ sizeLine ∧ (P (.tup xs) s1 ∨ P (.ptup xs) s1)
theorem de_tupC {es : List Expr} {tr : TA} {t : DA} {x1} (h : DPA X K W es tr t) : DPE X K W (.Tuple es x1 pos) (tTupC tr) (dTupC t) := ⟨h.k, pe_tupC h.pe, fun a B0 H0 s σ B H E P Q R L ht k =>
  h.sn a B0 H0 s σ B H E _ _ R L ht fun x s1 v B1 H1 f1 e1 q1 => ⟨by have := EmbL.length e1; rw [this]; exact q1.1, by
    rcases q1.2 with q | q
    · exact .inl fun p hp => k _ s1 _ _ _ (f1.trans (.pure f1.rel (Stp.new f1.rel.gr.bh hp))) (emb_tup upd_same (EmbL.mono (Same.new (bfresh f1.rel.gr.bh hp)) e1)) q
    · exact .inr fun p o hp h1 h2 => k _ s1 _ _ _ (f1.trans (.pure f1.rel (Stp.new f1.rel.gr.bh hp))) (emb_ptup upd_same h1 h2 (EmbL.mono (Same.new (bfresh f1.rel.gr.bh hp)) e1)) q⟩⟩
def dRevP (t : DE) : DE := fun s E P => t s E fun d s1 => match d with
  | .ptup xs => P (.ptup xs.reverse) s1
  | _ => False
theorem de_revP {c0 : Nat} {p1 p2 p3 : Pos} (h : DPE X K W x ea ta) : DPE X K W (.Subscript x (.Slice none none (some (.UnaryOp .USub (.Constant (.int 1) c0 p1) p2)) p3) pos) (tRevF ea) (dRevP ta) :=
  ⟨h.k, pe_revF h.pe, fun a B0 H0 s σ B H E P Q R L ht k => h.sn a B0 H0 s σ B H E _ _ R L ht fun d s1 v B1 H1 f em q => by
    cases d with
    | ptup xs =>
      obtain ⟨p, us, o, rfl, hp, h1, h2, r⟩ := Emb.ptup em
      exact ⟨p, us, rfl, ⟨o, f.rel.gr.bh _ _ hp, h1, h2⟩, fun l o2 hl h3 h4 => k _ s1 _ _ _ (f.trans (.pure f.rel (Stp.new f.rel.gr.bh hl))) (emb_ptup upd_same h3 h4 (r.reverse.mono (Same.new (bfresh f.rel.gr.bh hl)))) q⟩
    | _ => exact q.elim⟩
def eqP : D → D → (D → Prop) → Prop := fun x y P => match x, y with
  | .ptup xs, .ptup ys => ((D.tup xs).ok = true ∧ (D.tup ys).ok = true) ∧ P (.bl (eqv (.tup xs) (.tup ys)))
  | _, _ => False
def neP : D → D → (D → Prop) → Prop := fun x y P => match x, y with
  | .ptup xs, .ptup ys => ((D.tup xs).ok = true ∧ (D.tup ys).ok = true) ∧ P (.bl (!eqv (.tup xs) (.tup ys)))
  | _, _ => False
theorem ptup_dp {a : Addr} {B H : Hp} (s : Same B H) {xs : List D} {v : V} (p : (D.tup xs).plain = true) (h : Emb K a B (.ptup xs) v) : Dp K H v (D.tup xs).py := by
  obtain ⟨q, us, o, rfl, hq, h1, h2, r⟩ := Emb.ptup h
  unfold D.plain at p
  unfold D.py
  exact .tup (pt_sqT ⟨o, s _ _ hq, h1, h2⟩) (emb_dpL s p r)
theorem l_eqP : LOp K (rEqD K) eqP := fun a B H x y u v P Q s ex ey r k => by
  match x, y, r with
  | .ptup xs, .ptup ys, r =>
    have p1 : (D.tup xs).plain = true := (Bool.and_eq_true_iff.mp r.1.1).1
    have p2 : (D.tup ys).plain = true := (Bool.and_eq_true_iff.mp r.1.2).1
    exact ⟨_, _, ptup_dp s p1 ex, ptup_dp s p2 ey, ok_shaped r.1.1, ok_shaped r.1.2, k _ B H _ (Stp.refl s) emb_bl r.2⟩
theorem l_neP : LOp K (rNeD K) neP := fun a B H x y u v P Q s ex ey r k => by
  match x, y, r with
  | .ptup xs, .ptup ys, r =>
    have p1 : (D.tup xs).plain = true := (Bool.and_eq_true_iff.mp r.1.1).1
    have p2 : (D.tup ys).plain = true := (Bool.and_eq_true_iff.mp r.1.2).1
    exact ⟨_, _, ptup_dp s p1 ex, ptup_dp s p2 ey, ok_shaped r.1.1, ok_shaped r.1.2, k _ B H _ (Stp.refl s) emb_bl r.2⟩
/-! ### isinstance(e, tuple) of anything -/
def isT : D → Bool
  | .ptup _ => true
  | .tup _ => true
  | _ => false
def isOkP : D → Prop
  | .ins _ _ _ => False
  | .hand => False
  | _ => True
def dIsiA (t : DE) : DE := fun s E P => t s E fun d s1 => isOkP d ∧ P (.bl (isT d)) s1
theorem de_isiA {p p1 : Pos} (hm : X.mg "isinstance" = none) (hmx : X.mg "tuple" = none) (h : DPE X K W e te t)
    (hg : Gl X "isinstance" := by rfl) (hgx : Gl X "tuple" := by rfl)
    (s1 : starEach [e, .Name "tuple" p1] X.env = (false, eval e X.env) :: starEach [.Name "tuple" p1] X.env := by rfl) (s2 : starEach [.Name "tuple" p1] X.env = (false, eval (.Name "tuple" p1) X.env) :: starEach [] X.env := by rfl) (hpl : (backTo pos (starEach [.Name "tuple" p1] X.env)).any (·.1) = false := by rfl) :
    DPE X K W (.Call (.Name "isinstance" p) [e, .Name "tuple" p1] [] pos) (tCB (rIsi K) (tCons te (tCons (tC (.ty "tuple")) tNil))) (dIsiA t) :=
  ⟨h.k, by have hk := h.k; subst hk; exact pe_callB call_isi hg hm (by decide +kernel) (pa_cons h.pe (pa_cons (pe_bltn hgx hmx (by decide +kernel) rfl (by decide) (by decide)) pa_nil s2) s1) (by decide) (by decide) s1 hpl, fun a B0 H0 s σ B H E P Q R L ht k =>
    h.sn a B0 H0 s σ B H E _ _ R L ht fun d s1 v B1 H1 f em q => by
      by_cases hp : ∃ xs, d = .ptup xs
      · obtain ⟨xs, rfl⟩ := hp
        obtain ⟨p, us, o, rfl, hp, h1, h2, r⟩ := Emb.ptup em
        exact ⟨_, _, _, _, true, rfl, .ty "tuple", .fTuple (f.rel.gr.bh _ _ hp), kit_ty (by decide +kernel), k _ s1 _ B1 H1 f emb_bl q.2⟩
      · have ok : isOk [] d := by
          cases d with
          | ptup xs => exact absurd ⟨xs, rfl⟩ hp
          | ins c ns ds => exact q.1.elim
          | hand => exact q.1.elim
          | _ => exact True.intro
        have et : isT d = isiB d .tuple := by
          cases d with
          | ptup xs => exact absurd ⟨xs, rfl⟩ hp
          | _ => rfl
        obtain ⟨sh, eb⟩ := emb_sh (K := K) (cs := []) (fun _ h => nomatch h) ok em
        refine i_isi (n := "tuple") f.rel.gr.bh sh ?_ (by decide)
        rw [show shB B1 v "tuple" = isiB d .tuple from eb .tuple, ← et]
        exact k _ s1 _ B1 H1 f emb_bl q.2⟩
/-! ### isinstance(e, (C1, C2)) of anything -/
theorem emb_ty {a : Addr} {B H : Hp} {d : D} {v : V} (s : Same B H) (ok : isOkP d) (h : Emb K a B d v) : ∃ n ∈ sevenT, TyX K H v (.type n) := by
  cases d with
  | non => cases Emb.non h; exact ⟨"NoneType", by decide, .base .non⟩
  | bl b => cases Emb.bl h; exact ⟨"bool", by decide, .base (.bl b)⟩
  | int i => cases Emb.int h; exact ⟨"int", by decide, .base (.int i)⟩
  | str z => cases Emb.str h; exact ⟨"str", by decide, .base (.str z)⟩
  | tup xs => obtain ⟨p, us, rfl, hp, _⟩ := Emb.tup h; exact ⟨"tuple", by decide, .base (.tup (s _ _ hp))⟩
  | lst xs => obtain ⟨p, us, rfl, hp, _⟩ := Emb.lst h; exact ⟨"list", by decide, .base (.lst (s _ _ hp))⟩
  | dct ks ds => obtain ⟨p, us, rfl, hp, _⟩ := Emb.dct h; exact ⟨"dict", by decide, .base (.dK (s _ _ hp))⟩
  | ptup xs => obtain ⟨p, us, o, rfl, hp, _⟩ := Emb.ptup h; exact ⟨"tuple", by decide, .fTuple (s _ _ hp)⟩
  | ins c ns ds => exact ok.elim
  | hand => exact ok.elim
/-- the classes' answers: of instances of own classes, of all else no -/
def IscOk3 (K : PySem.W.Frag) (x y : Str) (cs : List (Str × Bool)) : Prop := (∀ p ∈ cs, OwnC K (He.ga K p.1) ∧ PySem.W.kitAny K (.ref (He.ga K p.1)) [.ref (He.ga K x), .ref (He.ga K y)] = some p.2) ∧ ∀ n ∈ sevenT, PySem.W.kitAny K (.type n) [.ref (He.ga K x), .ref (He.ga K y)] = some false
def dIsc3 (cs : List (Str × Bool)) (t : DE) : DE := fun s E P => t s E fun d s1 => match d with
  | .ins c _ _ => ∃ b, (c, b) ∈ cs ∧ P (.bl b) s1
  | .hand => False
  | _ => P (.bl false) s1
theorem de_isc3 {cs : List (Str × Bool)} {x y : Str} {p p1 p2 tp : Pos} {c0 : Nat} (hc : IscOk3 K x y cs) (hm : X.mg "isinstance" = none) (hmx : X.mg x = some (.ref (He.ga K x))) (hmy : X.mg y = some (.ref (He.ga K y))) (h : DPE X K W e te t)
    (hg : Gl X "isinstance" := by rfl) (hgx : Gl X x := by rfl) (hgy : Gl X y := by rfl) (hdb : (x == ("__debug__" : Str)) = false := by decide) (hdb' : (y == ("__debug__" : Str)) = false := by decide)
    (s1 : starEach [e, .Tuple [.Name x p1, .Name y p2] c0 tp] X.env = (false, eval e X.env) :: starEach [.Tuple [.Name x p1, .Name y p2] c0 tp] X.env := by rfl) (s2 : starEach [.Tuple [.Name x p1, .Name y p2] c0 tp] X.env = (false, eval (.Tuple [.Name x p1, .Name y p2] c0 tp) X.env) :: starEach [] X.env := by rfl)
    (s3 : starEach [.Name x p1, .Name y p2] X.env = (false, eval (.Name x p1) X.env) :: starEach [.Name y p2] X.env := by rfl) (s4 : starEach [.Name y p2] X.env = (false, eval (.Name y p2) X.env) :: starEach [] X.env := by rfl) (hpl : (backTo pos (starEach [.Tuple [.Name x p1, .Name y p2] c0 tp] X.env)).any (·.1) = false := by rfl) :
    DPE X K W (.Call (.Name "isinstance" p) [e, .Tuple [.Name x p1, .Name y p2] c0 tp] [] pos) (tCB (rIsiT K) (tCons te (tCons (tTup (tCons (tC (.ref (He.ga K x))) (tCons (tC (.ref (He.ga K y))) tNil))) tNil))) (dIsc3 cs t) :=
  ⟨h.k, by have hk := h.k; subst hk; exact pe_callB call_isiT hg hm (by decide +kernel) (pa_cons h.pe (pa_cons (pe_tup (pa_cons (pe_glob (v := .ref (He.ga X.K x)) hgx hmx rfl hdb) (pa_cons (pe_glob (v := .ref (He.ga X.K y)) hgy hmy rfl hdb') pa_nil s4) s3)) pa_nil s2) s1) (by decide) (by decide) s1 hpl, fun a B0 H0 s σ B H E P Q R L ht k =>
    h.sn a B0 H0 s σ B H E _ _ R L ht fun d s1 v B1 H1 f em q => by
      refine ⟨by show 2 ≤ sizeLine; decide, fun q0 hq0 => ?_⟩
      have sc := Stp.cell (W := No) (o := .tup [.ref (He.ga K x), .ref (He.ga K y)]) f.rel.gr.bh hq0
      have ot : isOkP d → (∀ c ns ds, d ≠ .ins c ns ds) → P (.bl false) s1 → rIsiT K [v, .ref q0] (upd H1 q0 (.tup [.ref (He.ga K x), .ref (He.ga K y)])) Q := fun ok _ q => by
        obtain ⟨n, hn, ty⟩ := emb_ty sc.bh ok em
        exact ⟨_, q0, _, _, _, false, rfl, upd_same, .cons (.own _) (.cons (.own _) .nil), ty, hc.2 n hn, k _ s1 _ B1 _ (f.trans (.pure f.rel sc)) emb_bl q⟩
      cases d with
      | ins c ns ds =>
        obtain ⟨b, hb, q⟩ := q
        obtain ⟨p, dx, fs, us, rfl, hp, e1, r⟩ := Emb.ins em
        obtain ⟨c0, hk⟩ := hc.1 _ hb
        exact ⟨_, q0, _, _, _, b, rfl, upd_same, .cons (.own _) (.cons (.own _) .nil), .base (.ins (sc.bh _ _ hp) c0.cl c0.ha c0.hn c0.ht c0.hm), hk, k _ s1 _ B1 _ (f.trans (.pure f.rel sc)) emb_bl q⟩
      | hand => exact q.elim
      | _ => exact ot True.intro (fun _ _ _ z => nomatch z) q⟩
/-! ### constructors that may raise -/
def toNewX (K : PySem.W.Frag) (C : Str) (dsp : DSp) : Sp := fun vs H Q E => ∃ (a : Addr) (B : Hp) (ds : List D) (x dx : Addr) (H0 : Hp) (P : D → Prop) (Xx : Exc → Prop) (us : List V), H0 x = none ∧ H0 dx = none ∧ dx ≠ x ∧ H = upd (upd H0 dx (.own x)) x (.ins (He.ga K C) dx []) ∧ vs = .ref x :: us ∧ Same B H0 ∧ HandOk B H0 a ∧ EmbL K a B ds us ∧ dsp ds P Xx ∧
  (∀ d, P d → ∀ B' H', Stp (Isa a) B H0 B' H' → HandOk B' H' a → Emb K a B' d (.ref x) → Q .non H') ∧
  (∀ y, Xx y → ∀ B' H' cls dd, Stp (Isa a) B H0 B' H' → HandOk B' H' a → XEmb K a B' H' y cls dd → E cls dd H')
theorem de_newX {k : Nat} {f : Addr} {fd : FuncData} {ps : List Str} {C : Str} {dsp : DSp} {p : Pos} {es : List Expr} {ta : TA} {td : DA} (M : Mk X.K (He.ga K C) f) (F : FnOk X.prog X.w X.K X.mg X.base (L2.CX X.prog X.w) k f fd ps (toNewX K C dsp)) (hr : Room (k + 1) X.A) (hm : X.mg C = some (.ref (He.ga K C))) (hb : L2.Binds X.K fd ps []) (tk : Takes X W)
    (ha : DPA X K W (e :: es) ta td) (hg : Gl X C := by rfl) (hdb : (C == ("__debug__" : Str)) = false := by decide) (he : starEach (e :: es) X.env = (false, eval e X.env) :: starEach es X.env := by rfl) (hpl : (backTo pos (starEach es X.env)).any (·.1) = false := by rfl) :
    DPE X K W (.Call (.Name C p) (e :: es) [] pos) (tMakeS (He.ga K C) (toNewX K C dsp) (WE W) ta) (dCallX dsp td) :=
  ⟨ha.k, by have hk := ha.k; subst hk; exact pe_makeS M F hr hg hm hb (fun σ => passAt tk σ) ha.pe hdb he hpl, fun a B0 H0 s σ B H E P Q R L ht kk =>
    ha.sn a B0 H0 s σ B H E _ _ R L ht fun ds s1 vs B1 H1 f1 em q => by
      intro x dx hx hdx hne
      exact ⟨a, B1, ds, x, dx, H1, _, _, vs, hx, hdx, hne, rfl, rfl, f1.rel.gr.bh, f1.rel.hand, em, q, fun d pd B2 H2 g hh e2 => ⟨rfl, kk d s1 _ B2 H2 (f1.trans (.call f1.rel g hh)) e2 pd⟩, fun y z B2 H2 cls dd g hh ex => L y s1 σ B2 H2 cls dd (f1.trans (.call f1.rel g hh)).rel ex z⟩⟩
/-- such a one that does not raise here -/
theorem new_of {K : PySem.W.Frag} {C : Str} {d1 d2 : DSp} {P : Program} {w : World} {mg : Str → Option Value} {base : Heap} {CX : CXT} {k : Nat} {f : Addr} {fd : FuncData} {ps : List Str} (F : FnOk P w K mg base CX k f fd ps (toNewX K C d1)) (h : ∀ ds Q, d2 ds Q (fun _ => False) → d1 ds Q (fun _ => False)) : FnOk P w K mg base CX k f fd ps (toNew K C d2) :=
  F.imp fun vs H Q E ⟨a, B, ds, x, dx, H0, P', us, h1, h2, h3, h4, h5, h6, h7, h8, h9, h10⟩ => ⟨a, B, ds, x, dx, H0, P', fun _ => False, us, h1, h2, h3, h4, h5, h6, h7, h8, h _ _ h9, h10, fun _ z => z.elim⟩
/-! ### by an own __eq__ -/
def spEqD (K : PySem.W.Frag) (R : D → D → Bool → Prop) : Sp := fun vs H Q _ => ∃ (a : Addr) (B : Hp) (x y : D) (u v : V) (b : Bool), vs = [u, v] ∧ Same B H ∧ Emb K a B x u ∧ Emb K a B y v ∧ R x y b ∧ Q (.bl b) H
def eqOD (c : Str) (R : D → D → Bool → Prop) : D → D → (D → Prop) → Prop := fun x y P => match x, y with
  | .ins c1 n1 d1, .ins c2 n2 d2 => (c1 = c ∧ c2 = c) ∧ ∃ b, R (.ins c1 n1 d1) (.ins c2 n2 d2) b ∧ P (.bl b)
  | _, _ => False
def neOD (c : Str) (R : D → D → Bool → Prop) : D → D → (D → Prop) → Prop := fun x y P => match x, y with
  | .ins c1 n1 d1, .ins c2 n2 d2 => (c1 = c ∧ c2 = c) ∧ ∃ b, R (.ins c1 n1 d1) (.ins c2 n2 d2) b ∧ P (.bl !b)
  | _, _ => False
def isDc : D → Prop
  | .non => True
  | .str _ => True
  | .tup _ => True
  | _ => False
def inOD (c : Str) (R : D → D → Bool → Prop) : D → D → (D → Prop) → Prop := fun x y P => match x, y with
  | .ins c1 n1 d1, .lst zs => c1 = c ∧ (∀ z ∈ zs, (isDc z ∧ R (.ins c1 n1 d1) z false) ∨ (∃ ns ds, z = .ins c ns ds ∧ (∀ (K : PySem.W.Frag) (a : Addr) (B : Hp) (v : V), Emb K a B (.ins c1 n1 d1) v → Emb K a B z v → False) ∧ R z (.ins c1 n1 d1) false)) ∧ P (.bl false)
  | _, _ => False
def rNeO (K : PySem.W.Frag) (C : Addr) (sp : Sp) (E : XK) : R2 := fun x y H Q => rEqO K C sp E x y H fun v H' => ∃ b, v = .bl b ∧ Q (.bl !b) H'
theorem l_eqO {c : Str} {R : D → D → Bool → Prop} {E : XK} (hc : OwnC K (He.ga K c)) : LOp K (rEqO K (He.ga K c) (spEqD K R) E) (eqOD c R) := fun a B H x y u v P Q s ex ey r k => by
  match x, y, r with
  | .ins c1 n1 d1, .ins c2 n2 d2, ⟨⟨h1, h2⟩, b, hR, hP⟩ =>
    subst h1 h2
    obtain ⟨p, dx, fs, us, rfl, hp, e1, r1⟩ := Emb.ins ex
    obtain ⟨q, dy, gs, ws, rfl, hq, e2, r2⟩ := Emb.ins ey
    exact ⟨p, dx, fs, rfl, s _ _ hp, ⟨_, ins_ty (s _ _ hq) hc, notFirst_self⟩, a, B, _, _, _, _, b, rfl, s, ex, ey, hR, b, rfl, k _ B H _ (Stp.refl s) emb_bl hP⟩
theorem l_neO {c : Str} {R : D → D → Bool → Prop} {E : XK} (hc : OwnC K (He.ga K c)) : LOp K (rNeO K (He.ga K c) (spEqD K R) E) (neOD c R) := fun a B H x y u v P Q s ex ey r k => by
  match x, y, r with
  | .ins c1 n1 d1, .ins c2 n2 d2, ⟨⟨h1, h2⟩, b, hR, hP⟩ =>
    subst h1 h2
    obtain ⟨p, dx, fs, us, rfl, hp, e1, r1⟩ := Emb.ins ex
    obtain ⟨q, dy, gs, ws, rfl, hq, e2, r2⟩ := Emb.ins ey
    exact ⟨p, dx, fs, rfl, s _ _ hp, ⟨_, ins_ty (s _ _ hq) hc, notFirst_self⟩, a, B, _, _, _, _, b, rfl, s, ex, ey, hR, b, rfl, b, rfl, k _ B H _ (Stp.refl s) emb_bl hP⟩
theorem l_inO {c : Str} {R : D → D → Bool → Prop} {E : XK} (hc : OwnC K (He.ga K c)) : LOp K (rInO2 K (He.ga K c) (spEqD K R) E) (inOD c R) := fun a B H x y u v P Q s ex ey r k => by
  match x, y, r with
  | .ins c1 n1 d1, .lst zs, ⟨h1, hz, hP⟩ =>
    subst h1
    obtain ⟨p, dx, fs, us, rfl, hp, e1, r1⟩ := Emb.ins ex
    obtain ⟨l, ws, rfl, hl, em⟩ := Emb.lst ey
    have all : ∀ {zs : List D} {ws : List V}, EmbL K a B zs ws → (∀ z ∈ zs, (isDc z ∧ R (.ins c1 n1 d1) z false) ∨ (∃ ns ds, z = .ins c1 ns ds ∧ (∀ (K : PySem.W.Frag) (a : Addr) (B : Hp) (v : V), Emb K a B (.ins c1 n1 d1) v → Emb K a B z v → False) ∧ R z (.ins c1 n1 d1) false)) → ∀ w ∈ ws, NoneIs2 K (He.ga K c1) (spEqD K R) E p H w := by
      intro zs
      induction zs with
      | nil => intro ws em _ w hw; rw [em.of_nil] at hw; cases hw
      | cons z zs ih =>
        intro ws em hz w hw
        obtain ⟨w0, ws, rfl, em1, em2⟩ := em.uncons
        rcases List.mem_cons.mp hw with rfl | hw
        · rcases hz z (List.mem_cons_self ..) with ⟨hd, hR⟩ | ⟨ns, ds, rfl, hne, hR⟩
          · refine .inl ⟨?_, a, B, _, _, _, _, false, rfl, s, ex, em1, hR, false, rfl, rfl, rfl⟩
            cases z with
            | non => cases Emb.non em1; exact .non
            | str z => cases Emb.str em1; exact .str z
            | tup xs => obtain ⟨q, us, rfl, hq, _⟩ := Emb.tup em1; exact .tup (s _ _ hq)
            | _ => exact hd.elim
          · obtain ⟨q, dy, gs, ws2, rfl, hq, _, _⟩ := Emb.ins em1
            refine .inr ⟨q, dy, gs, rfl, fun z => ?_, s _ _ hq, a, B, _, _, _, _, false, rfl, s, em1, ex, hR, false, rfl, rfl, rfl⟩
            subst z
            exact hne K a B _ ex em1
        · exact ih em2 (fun z hz' => hz z (List.mem_cons_of_mem _ hz')) w hw
    exact ⟨p, dx, fs, l, ws, rfl, s _ _ hp, ins_ty (s _ _ hp) hc, rfl, s _ _ hl, all em hz, k _ B H _ (Stp.refl s) emb_bl hP⟩
end
end Dl
set_option maxRecDepth 100000
set_option maxHeartbeats 4000000
/-! t * k of a tuple, 1 ≤ k -/
namespace Us
open PySem PySem.Spec PyProof.Rows L2
theorem tuple_mul1 (l : Addr) (items : Array Value) (n : Nat) (dd : Option Addr) (sl : Array (Option Value)) (u : Tok) :
    Meets (Builtin.«tuple.__mul__» ⟨[.ref l, .int 1 u], []⟩) (fun _ R s => s.heap.get? l = some { cls := .type "tuple", dict := dd, data := .seq items n, slots := sl } ∧ R (.ok (.ret (Value.ref l))) s) :=
  .of_wp fun prog w A R s h => by
    obtain ⟨hp, g, d, tk, os⟩ := s
    obtain ⟨hl, h⟩ := h
    have f1 := AutoSeq1.idx_int
    wp_walk using wpAny_loadPart' hl
    repeat (first
      | (refine wpAny_ite_false (decide_eq_false (by decide)) ?_; wp_walk using wpAny_loadPart' hl)
      | (refine wpAny_ite_true (decide_eq_true (by simp)) ?_; wp_walk using wpAny_loadPart' hl))
    exact ⟨_, rfl, h⟩
def rRepA (K : PySem.W.Frag) : R2 := fun x y H Q => ∃ l k xs, x = .ref l ∧ y = .int k ∧ SqT K H l xs ∧ xs ≠ [] ∧ 1 ≤ k ∧ k ≤ 1000 ∧ xs.length ≤ 1000 ∧ ((k = 1 ∧ Q (.ref l) H) ∨ (2 ≤ k ∧ ∀ p, H p = none → Q (.ref p) (upd H p (.tup (List.replicate k.toNat xs).flatten))))
theorem op_repA {X : Cx} : OpR X (binaryOp .Mult) (rRepA X.K) := by
  intro pins s σ H x y v u Q I rx ry h
  obtain ⟨l, k, xs, rfl, rfl, hT, hne, h1, h2, hz, q⟩ := h
  rcases q with ⟨rfl, q⟩ | ⟨h2', q⟩
  · cases rx
    obtain ⟨t, rfl⟩ := ry
    obtain ⟨its, r, ⟨⟨cls, dd, data, sl⟩, ho, hc, n, hd⟩, hs⟩ := I.tuple hT
    simp only at hc hd
    subst hc hd
    refine wpAny_binaryOp_repeat_ref (T := "tuple") (U := "int") (by decide) ⟨_, ho, rfl⟩ (fun s' => typeIs_int s' 1 t) noFill_tuple_mul F.fills_int_mul F.slot_int_rmul repeat_tuple F.slot_int_index.lookup
      (call_meets F.slot_int_rmul (typeIs_int s 1 t) F.entry_int_rmul (F.args_int_rmul_2 _ _) (int_rmul_tuple 1 t l its.toArray n dd sl)
        ⟨ho, rfl, ⟨_, ho, rfl⟩, call_meets F.slot_tuple_mul ⟨_, ho, rfl⟩ F.entry_tuple_mul (F.args_tuple_mul_2 _ _) (tuple_mul1 l its.toArray n dd sl t) ⟨ho, ?_⟩⟩)
    exact ⟨.ref l, H, I, rfl, q⟩
  · exact op_repT pins s σ H (.ref l) (.int k) v u Q I rx ry ⟨l, k, xs, rfl, rfl, hT, hne, h2', h2, hz, q⟩
end Us
set_option maxRecDepth 100000
set_option maxHeartbeats 2000000
/-! max(a, b) of two ints; a tuple told several times -/
namespace Dl
open PySem PySem.Spec PyProof.Rows L2 Us
def rMax2 : List V → Hp → VK → Prop := fun xs H Q => ∃ i j, xs = [.int i, .int j] ∧ Q (.int (if j > i then j else i)) H
def max2D : List D → (D → Prop) → Prop := fun ds P => match ds with
  | [.int i, .int j] => P (.int (max i j))
  | _ => False
section
variable {X : Cx} {K : PySem.W.Frag} {W : WX} {pos p : Pos} {e1 e2 : Expr} {te1 te2 : TE} {t1 t2 : DE} {f : Str}
theorem l_max2 : LCall K rMax2 max2D := fun a B H xs us P Q s e r k => by
  match xs, r with
  | [.int i, .int j], r =>
    obtain ⟨u1, u2, rfl, h1, h2⟩ := embl2 e
    cases Emb.int h1
    cases Emb.int h2
    have r : P (.int (max i j)) := r
    refine ⟨i, j, rfl, k _ B H _ (Stp.refl s) emb_int ?_⟩
    rw [show (if j > i then j else i) = max i j by split <;> omega]
    exact r
theorem max2_k (hc : X.calm = true) : CallR X (.builtin "max") rMax2 := call_max2 hc
theorem de_max2 (hm : X.mg f = none) (h1 : DPE X K W e1 te1 t1) (h2 : DPE X K W e2 te2 t2) (hc : X.calm = true := by rfl) (hg : Gl X f := by rfl) (hv : bootBuiltins f = some (.builtin "max") := by decide +kernel) (hn : f ≠ "__name__" := by decide) (hdb : (f == ("__debug__" : Str)) = false := by decide)
    (he2 : starEach [e2] X.env = (false, eval e2 X.env) :: starEach [] X.env := by rfl) (he : starEach [e1, e2] X.env = (false, eval e1 X.env) :: starEach [e2] X.env := by rfl) (hpl : (backTo pos (starEach [e2] X.env)).any (·.1) = false := by rfl) : DPE X K W (.Call (.Name f p) [e1, e2] [] pos) (tCB rMax2 (tCons te1 (tCons te2 tNil))) (dCB max2D (dCons t1 (dCons t2 dNil))) :=
  have H := da_cons h1 (da_cons h2 (da_nil h1.k) he2) he
  ⟨h1.k, pe_callB (max2_k hc) hg hm hv H.pe hn hdb he hpl, snd_cb l_max2 H.sn⟩
def repT : D → D → (D → Prop) → Prop := fun x y P => match x, y with
  | .tup xs, .int k => (xs ≠ [] ∧ 1 ≤ k ∧ k ≤ 1000 ∧ xs.length ≤ 1000) ∧ P (.tup (List.replicate k.toNat xs).flatten)
  | _, _ => False
theorem l_repT : LOp K (rRepA K) repT := fun a B H x y u v P Q s ex ey r k => by
  unfold repT at r
  split at r
  · rename_i xs i
    have ex' := ex
    obtain ⟨p, us, rfl, hp, em⟩ := Emb.tup ex
    cases Emb.int ey
    obtain ⟨⟨hne, h1, h2, h3⟩, r⟩ := r
    have l1 := em.length
    refine ⟨p, i, us, rfl, rfl, SqT.of (s _ _ hp), fun z => hne (List.eq_nil_of_length_eq_zero (by rw [← l1, z]; rfl)), h1, h2, by rw [l1]; exact h3, ?_⟩
    by_cases c : i = 1
    · subst c
      refine .inl ⟨rfl, k _ B H _ (Stp.refl s) ex' ?_⟩
      have e : (List.replicate (1 : Int).toNat xs).flatten = xs := by simp
      rw [e] at r
      exact r
    · exact .inr ⟨by omega, fun q hq => k _ _ _ _ (Stp.new s hq) (emb_tup upd_same ((em.rep _).mono (Same.new (bfresh s hq)))) r⟩
  · exact r.elim
theorem repA_k (h : X.K = K) : OpR X (binaryOp .Mult) (rRepA K) := by subst h; exact op_repA
end
end Dl
set_option maxRecDepth 100000
set_option maxHeartbeats 4000000
/-! x in [..] where some items are instances of another class with an own __eq__ -/
namespace Us
open PySem PySem.Spec PyProof.Rows L2
section
variable {X : Cx} {C C2 : Addr} {sp sp2 : Sp} {E : XK}
theorem kit_sub {K : PySem.W.Frag} {C C2 : Addr} (h : PySem.W.kitOne K (.ref C) (.ref C2) = some false) : C ≠ C2 ∧ PySem.W.notFirst K C2 (.ref C) = true := by
  unfold PySem.W.kitOne at h
  split at h
  · cases h
  · rename_i hn
    refine ⟨fun z => hn (by rw [z]; simp), ?_⟩
    unfold PySem.W.kitCls at h
    simp only at h
    split at h
    · unfold PySem.W.notFirst
      rw [h]
      simp
    · cases h
theorem eqB_oth {CX : CXT} {f : Addr} {fd : FuncData} {ps : List Str} {n : Nat} (F : FnOk X.prog X.w X.K X.mg X.base CX n f fd ps sp2) (T : OwnQ X.K C2 f) (hb : L2.Binds X.K fd ps []) (hx : Passes CX X E) {A : Around} {pins : List (Addr × Obj)} {s : Shared} {σ : L2.St} {H : Hp} {a b dy : Addr} {gs : List (Str × V)} {t : Value} {Q : Bool → Hp → Prop} (sb : Sub X (n + 1) A) (I : Inv X pins σ H s) (ty : TyX X.K H (.ref a) t) (nf : PySem.W.notFirst X.K C2 t = true) (ib : H b = some (.ins C2 dy gs)) (hne : b ≠ a) (h : EqS sp2 E (.ref b) (.ref a) H Q) :
    wpAny (model X.prog X.w) A (eqBool (.ref b) (.ref a)) (fun b s' => ∃ H', Inv X pins σ H' s' ∧ Q b H') X.xe s := by
  obtain ⟨mA, J, _⟩ := ins_get I.hok ib
  obtain ⟨od, J, _⟩ := J.look
  obtain ⟨m, hF⟩ := I.fr
  have ry : RelV (.ref a) (.ref a) := rfl
  obtain ⟨P, kx, hP, _⟩ := kit_of I ry ty
  unfold eqBool
  refine wpAny_holding (wpAny_ite_split (fun hab => ?_) fun _ => ?_)
  · have z := eq_of_beq hab
    cases z
    exact absurd rfl hne
  · refine wpAny_bind (PySem.W.cmp_K (op := .Eq) sb.room.units0 hF I.ok.mod.kin J (kx.ty _ _ I.kIn hP) nf T.eq T.fn ?_)
    refine wpAny_mono (own_call F hb hx (sb.mono (Nat.le_succ n)) (x := .ref b) (u := .ref b) I rfl ry h) (fun r s' q => ?_) fun _ _ x => x
    obtain ⟨b', H', rfl, I', q⟩ := q
    exact wpAny_truthy_bool ⟨H', I', q⟩
def NoneIs3 (K : PySem.W.Frag) (C : Addr) (sp : Sp) (C2 : Addr) (sp2 : Sp) (E : XK) (a : Addr) (H : Hp) (y : V) : Prop := NoneIs K C sp E a H y ∨ ∃ b dy gs, y = .ref b ∧ b ≠ a ∧ H b = some (.ins C2 dy gs) ∧ EqS sp2 E (.ref b) (.ref a) H fun b H' => b = false ∧ H' = H
theorem in_loop3 {CX : CXT} {f f2 : Addr} {fd fd2 : FuncData} {ps ps2 : List Str} {n : Nat} (F : FnOk X.prog X.w X.K X.mg X.base CX n f fd ps sp) (T : OwnQ X.K C f) (hb : L2.Binds X.K fd ps []) (F2 : FnOk X.prog X.w X.K X.mg X.base CX n f2 fd2 ps2 sp2) (T2 : OwnQ X.K C2 f2) (hb2 : L2.Binds X.K fd2 ps2 []) (nf : PySem.W.notFirst X.K C2 (.ref C) = true) (hx : Passes CX X E) {A : Around} {pins : List (Addr × Obj)} {σ : L2.St} {H : Hp} {a dx l : Addr} {fs : List (Str × V)} {xs : List V} {R : Result → Shared → Prop}
    (sb : Sub X (n + 2) A) (ha : H a = some (.ins C dx fs)) (hty : TyX X.K H (.ref a) (.ref C)) (hl : H l = some (.lst xs)) (hn : ∀ y ∈ xs, NoneIs3 X.K C sp C2 sp2 E a H y) (hR : ∀ s', Inv X pins σ H s' → R (.ok (.ret (.bool false))) s') (hE : ∀ e s', X.xe e s' → R (.error e) s') (k : Nat) :
    ∀ i : Nat, xs.length - i = k → ∀ s, Inv X pins σ H s → wpAny (model X.prog X.w) A.in1 (Builtin.«list.__contains__.loop» ⟨[.ref l, .ref a, rawInt i], []⟩) (GQ.FinOf X.prog X.w A R) (fun e s' => R (.error e) s') s := by
  induction k with
  | zero =>
    intro i hk s I
    obtain ⟨z, its, m, r, e⟩ := I.hok l _ hl
    have hR' := hR s I
    obtain ⟨hp, g, d, tk, os⟩ := s
    wp_walk using PySem.AutoSeq1.wpAny_loadPart' e
    have hlen := r.length
    have hi : its.toArray[((i : Nat) : Int).toNat]? = none := by simp; omega
    rw [hi]
    wp_walk
    exact hR'
  | succ k ih =>
    intro i hk s I
    obtain ⟨z, its, m, r, e⟩ := I.hok l _ hl
    have hlen := r.length
    have hlt : i < its.length := by omega
    have hlx : i < xs.length := by omega
    obtain ⟨u, hu, ru⟩ := r.get (List.getElem?_eq_getElem hlx)
    have hi : its.toArray[((i : Nat) : Int).toNat]? = some u := by simpa using hu
    have step : wpAny (model X.prog X.w) A.in1 (eqBool u (.ref a)) (fun b s' => ∃ H', Inv X pins σ H' s' ∧ b = false ∧ H' = H) X.xe s := by
      rcases hn _ (List.getElem_mem hlx) with ⟨dy, hy⟩ | ⟨b, dy, gs, ey, hne, ib, hy⟩
      · exact eqB_right F T hb hx (A := A.in1) (pins := pins) (s := s) (σ := σ) (v := u) ⟨sb.room.in1, sb.fr⟩ I ha dy ru hy
      · rw [ey] at ru
        cases ru
        exact eqB_oth F2 T2 hb2 hx (A := A.in1) (pins := pins) (s := s) (σ := σ) ⟨sb.room.in1, sb.fr⟩ I hty nf ib hne hy
    obtain ⟨hp, g, d, tk, os⟩ := s
    wp_walk using PySem.AutoSeq1.wpAny_loadPart' e
    rw [hi]
    refine wpAny_bind (wpAny_mono step (fun b s2 q => ?_) fun e' s' x => hE e' s' x)
    obtain ⟨H', I', rfl, rfl⟩ := q
    have hc : ((i : Int) + 1) = ((i + 1 : Nat) : Int) := by omega
    have hrec := ih (i + 1) (by omega) s2 I'
    obtain ⟨hp2, g2, d2, tk2, os2⟩ := s2
    wp_walk
    rw [hc]
    exact ⟨plainId_quiet PySem.MeetsSeq.plain_contains_loop _, codeAny_builtin PySem.MeetsSeq.entry_contains_loop (by
      rw [Around.under_plainId PySem.MeetsSeq.plain_contains_loop _]
      exact hrec)⟩
def rInO3 (K : PySem.W.Frag) (C : Addr) (sp : Sp) (C2 : Addr) (sp2 : Sp) (E : XK) (g : Bool → Bool) : R2 := fun x y H Q => ∃ a dx fs l xs, x = .ref a ∧ H a = some (.ins C dx fs) ∧ TyX K H (.ref a) (.ref C) ∧ y = .ref l ∧ H l = some (.lst xs) ∧ (∀ y ∈ xs, NoneIs3 K C sp C2 sp2 E a H y) ∧ Q (.bl (g false)) H
theorem in3_at {CX : CXT} {f f2 : Addr} {fd fd2 : FuncData} {ps ps2 : List Str} {n : Nat} (F : FnOk X.prog X.w X.K X.mg X.base CX n f fd ps sp) (T : OwnQ X.K C f) (hb : L2.Binds X.K fd ps []) (F2 : FnOk X.prog X.w X.K X.mg X.base CX n f2 fd2 ps2 sp2) (T2 : OwnQ X.K C2 f2) (hb2 : L2.Binds X.K fd2 ps2 []) (nf : PySem.W.notFirst X.K C2 (.ref C) = true) (hx : Passes CX X E) (hr : Room (n + 2) X.A) {g : Bool → Bool} {pins : List (Addr × Obj)} {s : Shared} {σ : L2.St} {H : Hp} {a dx l : Addr} {fs : List (Str × V)} {xs : List V} {Q : VK} (I : Inv X pins σ H s)
    (ha : H a = some (.ins C dx fs)) (hty : TyX X.K H (.ref a) (.ref C)) (hl : H l = some (.lst xs)) (hn : ∀ y ∈ xs, NoneIs3 X.K C sp C2 sp2 E a H y) (q : Q (.bl (g false)) H) :
    wpAny (model X.prog X.w) X.A (do return Value.bool (g (← contains (.ref l) (.ref a)))) (EP X pins σ Q) X.xe s := by
  obtain ⟨z, its, m, r, e⟩ := I.hok l _ hl
  refine wpAny_bind (wpAny_contains_slot (T := "list") ⟨_, e, rfl⟩ PySem.F.slot_list_contains ?_)
  have hrec := in_loop3 (R := wants (fun r s' => wpAny (model X.prog X.w) X.A (truthy r) (fun b s' => wpAny (model X.prog X.w) X.A (pure (Value.bool (g b))) (EP X pins σ Q) X.xe s') X.xe s') X.xe) F T hb F2 T2 hb2 nf hx (A := X.A) ⟨hr, rfl⟩ ha hty hl hn
    (fun s' I' => wpAny_truthy_bool (wpAny_pure ⟨.bl (g false), H, I', rfl, q⟩)) (fun e s' x => x) _ 0 rfl s I
  refine GQ.call_here PySem.F.slot_list_contains ⟨_, e, rfl⟩ PySem.F.entry_list_contains (PySem.F.args_list_contains_2 _ _) ?_
  obtain ⟨hp, g, d, tk, os⟩ := s
  wp_walk using PySem.AutoSeq1.wpAny_loadPart' e
  exact ⟨plainId_quiet PySem.MeetsSeq.plain_contains_loop _, codeAny_builtin PySem.MeetsSeq.entry_contains_loop (by
    rw [Around.under_plainId PySem.MeetsSeq.plain_contains_loop _]
    exact hrec)⟩
theorem op_inO3 {CX : CXT} {f f2 : Addr} {fd fd2 : FuncData} {ps ps2 : List Str} {n : Nat} (F : FnOk X.prog X.w X.K X.mg X.base CX n f fd ps sp) (T : OwnQ X.K C f) (hb : L2.Binds X.K fd ps []) (F2 : FnOk X.prog X.w X.K X.mg X.base CX n f2 fd2 ps2 sp2) (T2 : OwnQ X.K C2 f2) (hb2 : L2.Binds X.K fd2 ps2 []) (kn : PySem.W.kitOne X.K (.ref C) (.ref C2) = some false) (hx : Passes CX X E) (hr : Room (n + 2) X.A) : OpR X (compareOp .In) (rInO3 X.K C sp C2 sp2 E id) := by
  intro pins s σ H x y u v Q I rx ry h
  obtain ⟨a, dx, fs, l, xs, rfl, ha, hty, rfl, hl, hn, q⟩ := h
  cases rx
  cases ry
  exact in3_at F T hb F2 T2 hb2 (kit_sub kn).2 hx hr (g := id) I ha hty hl hn q
theorem op_ninO3 {CX : CXT} {f f2 : Addr} {fd fd2 : FuncData} {ps ps2 : List Str} {n : Nat} (F : FnOk X.prog X.w X.K X.mg X.base CX n f fd ps sp) (T : OwnQ X.K C f) (hb : L2.Binds X.K fd ps []) (F2 : FnOk X.prog X.w X.K X.mg X.base CX n f2 fd2 ps2 sp2) (T2 : OwnQ X.K C2 f2) (hb2 : L2.Binds X.K fd2 ps2 []) (kn : PySem.W.kitOne X.K (.ref C) (.ref C2) = some false) (hx : Passes CX X E) (hr : Room (n + 2) X.A) : OpR X (compareOp .NotIn) (rInO3 X.K C sp C2 sp2 E not) := by
  intro pins s σ H x y u v Q I rx ry h
  obtain ⟨a, dx, fs, l, xs, rfl, ha, hty, rfl, hl, hn, q⟩ := h
  cases rx
  cases ry
  exact in3_at F T hb F2 T2 hb2 (kit_sub kn).2 hx hr (g := not) I ha hty hl hn q
end
end Us
set_option maxRecDepth 100000
set_option maxHeartbeats 2000000
/-! methods by data; == of instances by an own __eq__ that makes things; not in where an item is of another class -/
namespace Dl
open PySem PySem.Spec PyProof.Rows L2 Us
section
variable {P : Program} {w : World} {K : PySem.W.Frag} {mg : Str → Option Value} {base : Heap}
/-- a method that lets no exception out -/
theorem fund_dl {x qual params body scope f fd} {N ps : List Str} {k : Nat} {dsp : DSp} (F : FunD K x qual params body scope [] [] f fd) (S : FnScope N ps scope)
    (len : ∀ ds Q E, dsp ds Q E → ds.length = ps.length)
    (hbody : ∀ (cdv : Value) (A : Around) (outer : List Env) (s : Shared) (H : Hp) (E : XK), Room k (A.deeper (envOfC qual scope s.heap.objs.size f cdv)) →
      ∃ ts t, DPSs (cxOf CX0 P w K mg base N qual scope f cdv A outer s H E).nox K WXn body ts t ∧ ∀ ds Q Xx, dsp ds Q Xx → t { nx := fun _ => Q .non, rt := Q } (startD N.length ds)) : FnOk P w K mg base CX0 (k + 1) f fd ps (toSp K dsp) := by
  refine F.ok S (fun vs H Q E h => ?_) fun cdv A outer s H vs Q E hr h => ?_
  · obtain ⟨a, B, ds, P', Xx, _, _, e, h, _⟩ := h
    rw [e.length]
    exact len _ _ _ h
  · obtain ⟨a, B, ds, P', Xx, hs, hh, e, h, k1, k2⟩ := h
    obtain ⟨ts, t, hd, ht⟩ := hbody cdv A outer s H E hr
    refine ⟨ts, PSs.nox hd.ps, ?_⟩
    exact hd.sn a B H _ _ B H { nx := fun _ => P' .non, rt := P' } _ (start_rel hs hh e) lkn ⟨fun s' σ' B' H' R' _ z => k1 _ z B' H' _ R'.gr R'.hand emb_non, fun d v B' H' g hh' e' z => k1 d z B' H' v g hh' e', fun _ _ _ _ _ _ z => z.elim, fun _ _ _ _ _ _ z => z.elim, fun _ _ _ _ _ _ _ z => z.elim, fun _ _ _ _ _ _ _ z => z.elim⟩ (ht ds P' Xx h)
end
def bothI (c : Str) : D → D → Prop
  | .ins c1 _ _, .ins c2 _ _ => c1 = c ∧ c2 = c
  | _, _ => False
/-- x == y by an own __eq__ that may make things -/
def dEqH (c : Str) (dsp : DSp) (ta tb : DE) : DE := fun s E P => ta s E fun x s1 => tb s1 E fun y s2 => bothI c x y ∧ dsp [x, y] (fun d => ∃ b, d = .bl b ∧ P (.bl b) s2) fun _ => False
section
variable {X : Cx} {K : PySem.W.Frag} {W : WX}
theorem snd_eqH {c : Str} {dsp : DSp} {E0 : XK} {ea eb : TE} {ta tb : DE} (hc : OwnC K (He.ga K c)) (ha : Snd K W (RE K) ea ta) (hb : Snd K W (RE K) eb tb) : Snd K W (RE K) (tOp (rEqO K (He.ga K c) (toSp K dsp) E0) ea eb) (dEqH c dsp ta tb) := fun a B0 H0 s σ B H E P Q R L ht k =>
  ha a B0 H0 s σ B H E _ _ R L ht fun x s1 u B1 H1 f1 e1 q1 => hb a B0 H0 s1 σ B1 H1 E _ _ f1.rel L q1 fun y s2 v B2 H2 f2 e2 q2 => by
    obtain ⟨hh, q⟩ := q2
    match x, y, hh with
    | .ins c1 n1 d1, .ins c2 n2 d2, ⟨h1, h2⟩ =>
      subst h1 h2
      have e1 := Emb.mono f2.stp.bb e1
      obtain ⟨p, dx, fs, us, rfl, hp, e3, r1⟩ := Emb.ins e1
      obtain ⟨q', dy, gs, ws, rfl, hq, e4, r2⟩ := Emb.ins e2
      have sm := f2.rel.gr.bh
      refine ⟨p, dx, fs, rfl, sm _ _ hp, ⟨_, ins_ty (sm _ _ hq) hc, notFirst_self⟩, a, B2, _, _, _, sm, f2.rel.hand, .cons e1 (.cons e2 .nil), q, fun d hd B' H' w g hA em => ?_, fun _ z => z.elim⟩
      obtain ⟨b, rfl, pd⟩ := hd
      cases Emb.bl em
      exact ⟨b, rfl, k _ s2 _ B' H' (f1.trans (f2.trans (.call f2.rel g hA))) emb_bl pd⟩
theorem de_eqH {CX : CXT} {n : Nat} {f : Addr} {fd : FuncData} {ps : List Str} {c : Str} {dsp : DSp} {E0 : XK} {ea eb : TE} {ta tb : DE} {x y : Expr} {pos : Pos} (F : FnOk X.prog X.w X.K X.mg X.base CX n f fd ps (toSp X.K dsp)) (T : OwnQ X.K (He.ga X.K c) f) (hbn : L2.Binds X.K fd ps []) (hx : Passes CX X E0) (hr : Room n X.A) (hc : OwnC X.K (He.ga X.K c)) (ha : DPE X K W x ea ta) (hb : DPE X K W y eb tb) (hm : behindInMarks .Eq y = false := by first | exact nomark _ | rfl) :
    DPE X K W (.Compare x [.Eq] [y] pos) (tOp (rEqO X.K (He.ga X.K c) (toSp X.K dsp) E0) ea eb) (dEqH c dsp ta tb) := by
  have hk := ha.k
  subst hk
  exact ⟨rfl, pe_cmpR (op_eqO F T hbn hx hr) ha.pe hb.pe hm, snd_eqH hc ha.sn hb.sn⟩
def inOD3 (c c2 : Str) (R R2 : D → D → Bool → Prop) (g : Bool → Bool) : D → D → (D → Prop) → Prop := fun x y P => match x, y with
  | .ins c1 n1 d1, .lst zs => c1 = c ∧ (∀ z ∈ zs, (isDc z ∧ R (.ins c1 n1 d1) z false) ∨ (∃ ns ds, z = .ins c2 ns ds ∧ R2 z (.ins c1 n1 d1) false)) ∧ P (.bl (g false))
  | _, _ => False
theorem l_inO3 {c c2 : Str} {R R2 : D → D → Bool → Prop} {E : XK} {g : Bool → Bool} (hc : OwnC K (He.ga K c)) (kn : PySem.W.kitOne K (.ref (He.ga K c)) (.ref (He.ga K c2)) = some false) : LOp K (rInO3 K (He.ga K c) (spEqD K R) (He.ga K c2) (spEqD K R2) E g) (inOD3 c c2 R R2 g) := fun a B H x y u v P Q s ex ey r k => by
  match x, y, r with
  | .ins c1 n1 d1, .lst zs, ⟨h1, hz, hP⟩ =>
    subst h1
    obtain ⟨p, dx, fs, us, rfl, hp, e1, r1⟩ := Emb.ins ex
    obtain ⟨l, ws, rfl, hl, em⟩ := Emb.lst ey
    have all : ∀ {zs : List D} {ws : List V}, EmbL K a B zs ws → (∀ z ∈ zs, (isDc z ∧ R (.ins c1 n1 d1) z false) ∨ (∃ ns ds, z = .ins c2 ns ds ∧ R2 z (.ins c1 n1 d1) false)) → ∀ w ∈ ws, NoneIs3 K (He.ga K c1) (spEqD K R) (He.ga K c2) (spEqD K R2) E p H w := by
      intro zs
      induction zs with
      | nil => intro ws em _ w hw; rw [em.of_nil] at hw; cases hw
      | cons z zs ih =>
        intro ws em hz w hw
        obtain ⟨w0, ws, rfl, em1, em2⟩ := em.uncons
        rcases List.mem_cons.mp hw with rfl | hw
        · rcases hz z (List.mem_cons_self ..) with ⟨hd, hR⟩ | ⟨ns, ds, rfl, hR⟩
          · refine .inl ⟨?_, a, B, _, _, _, _, false, rfl, s, ex, em1, hR, false, rfl, rfl, rfl⟩
            cases z with
            | non => cases Emb.non em1; exact .non
            | str z => cases Emb.str em1; exact .str z
            | tup xs => obtain ⟨q, us, rfl, hq, _⟩ := Emb.tup em1; exact .tup (s _ _ hq)
            | _ => exact hd.elim
          · obtain ⟨q, dy, gs, ws2, rfl, hq, _, _⟩ := Emb.ins em1
            refine .inr ⟨q, dy, gs, rfl, fun z => ?_, s _ _ hq, a, B, _, _, _, _, false, rfl, s, em1, ex, hR, false, rfl, rfl, rfl⟩
            subst z
            rw [hp] at hq
            injection hq with hq
            injection hq with hq
            exact (kit_sub kn).1 hq
        · exact ih em2 (fun z hz' => hz z (List.mem_cons_of_mem _ hz')) w hw
    exact ⟨p, dx, fs, l, ws, rfl, s _ _ hp, ins_ty (s _ _ hp) hc, rfl, s _ _ hl, all em hz, k _ B H _ (Stp.refl s) emb_bl hP⟩
end
end Dl
set_option maxRecDepth 100000
set_option maxHeartbeats 4000000
/-! ==, != of instances of a class and of its subclass: the subclass's is asked first -/
namespace Us
open PySem PySem.Spec PyProof.Rows L2
section
variable {X : Cx} {CX : CXT} {C C1 C2 f : Addr} {fd : FuncData} {ps : List Str} {sp : Sp} {E : XK} {n : Nat}
theorem kit_subT {K : PySem.W.Frag} {C C2 : Addr} (h : PySem.W.kitOne K (.ref C) (.ref C2) = some true) (hne : C ≠ C2) : PySem.W.subIn K (.ref C) (.ref C2) = some true := by
  unfold PySem.W.kitOne at h
  split at h
  · rename_i z
    have := eq_of_beq z
    injection this with this
    exact absurd this hne
  · unfold PySem.W.kitCls at h
    simp only at h
    split at h
    · exact h
    · cases h
/-- the right one is of a subclass -/
theorem eq_sub {C Cy : Addr} (F : FnOk X.prog X.w X.K X.mg X.base CX n f fd ps sp) (T : OwnQ X.K Cy f) (hb : L2.Binds X.K fd ps []) (hx : Passes CX X E) (hr : Room n X.A) {pins : List (Addr × Obj)} {s : Shared} {σ : L2.St} {H : Hp} {a dx b dy : Addr} {fs gs : List (Str × V)} {Q : VK} (I : Inv X pins σ H s)
    (ha : H a = some (.ins C dx fs)) (ib : H b = some (.ins Cy dy gs)) (hne : C ≠ Cy) (hs : PySem.W.subIn X.K (.ref Cy) (.ref C) = some true) (h : EqS sp E (.ref b) (.ref a) H fun b H' => Q (.bl b) H') :
    wpAny (model X.prog X.w) X.A (richCompare .Eq (.ref a) (.ref b)) (EP X pins σ Q) X.xe s := by
  obtain ⟨mA, J, _⟩ := ins_get I.hok ha
  obtain ⟨mB, Jb, _⟩ := ins_get I.hok ib
  obtain ⟨od, J, _⟩ := J.look
  obtain ⟨ob, Jb, _⟩ := Jb.look
  have one : wpAny (model X.prog X.w) X.A (tryCompare (.ref b) (cmpInfo .Eq).2.2 (.ref a)) (fun r s' => ∃ v, r = some v ∧ EP X pins σ Q v s') X.xe s := by
    unfold tryCompare
    refine wpAny_bind (PySem.W.ifBound_K I.kIn Jb T.eq T.fn (wpAny_mono (own_call F hb hx ⟨hr, rfl⟩ (x := .ref b) (u := .ref b) (y := .ref a) I rfl rfl h) (fun r s' q => ?_) fun _ _ e => e))
    obtain ⟨b', H', rfl, I', q⟩ := q
    exact wpAny_pure ⟨_, rfl, .bl b', H', I', rfl, q⟩
  unfold richCompare
  simp only [oneThing_ref]
  refine wpAny_holding (wpAny_bind (wpAny_cRoomFor (hr.mono (by omega) : Room 0 X.A).units0 ?_))
  refine wpAny_bind (J.type.here (wpAny_bind (Jb.type.here ?_)))
  split
  · refine wpAny_bind ((PySem.W.looks_subIn I.kIn hs).here ?_)
    simp only [if_true]
    refine wpAny_bind (wpAny_mono one (fun r s' z => ?_) fun _ _ e => e)
    obtain ⟨v, rfl, hq⟩ := z
    exact wpAny_bind (wpAny_rule (wpAny_pure hq))
  · rename_i q
    exact absurd (by simp; exact hne) q
theorem ne_sub {C Cy : Addr} (F : FnOk X.prog X.w X.K X.mg X.base CX n f fd ps sp) (T : OwnQ X.K Cy f) (hb : L2.Binds X.K fd ps []) (hx : Passes CX X E) (hr : Room (n + 1) X.A) {pins : List (Addr × Obj)} {s : Shared} {σ : L2.St} {H : Hp} {a dx b dy : Addr} {fs gs : List (Str × V)} {Q : VK} (I : Inv X pins σ H s)
    (ha : H a = some (.ins C dx fs)) (ib : H b = some (.ins Cy dy gs)) (hne : C ≠ Cy) (hs : PySem.W.subIn X.K (.ref Cy) (.ref C) = some true) (h : EqS sp E (.ref b) (.ref a) H fun b H' => ∃ b', V.bl b = .bl b' ∧ Q (.bl !b') H') :
    wpAny (model X.prog X.w) X.A (richCompare .NotEq (.ref a) (.ref b)) (EP X pins σ Q) X.xe s := by
  obtain ⟨mA, J, _⟩ := ins_get I.hok ha
  obtain ⟨mB, Jb, _⟩ := ins_get I.hok ib
  obtain ⟨od, J, _⟩ := J.look
  obtain ⟨ob, Jb, _⟩ := Jb.look
  have one : wpAny (model X.prog X.w) X.A (tryCompare (.ref b) (cmpInfo .NotEq).2.2 (.ref a)) (fun r s' => ∃ v, r = some v ∧ EP X pins σ Q v s') X.xe s := by
    refine try_ne T I ib hr.in1.units0 (wpAny_mono (own_call F hb hx ⟨hr.in1, rfl⟩ (x := .ref b) (u := .ref b) (y := .ref a) I rfl rfl h) (fun r s' q => ?_) fun _ _ x => x)
    obtain ⟨b, H', rfl, I', b', e, q⟩ := q
    cases e
    exact ⟨b, rfl, _, rfl, .bl !b, H', I', rfl, q⟩
  unfold richCompare
  simp only [oneThing_ref]
  refine wpAny_holding (wpAny_bind (wpAny_cRoomFor (hr.mono (by omega) : Room 0 X.A).units0 ?_))
  refine wpAny_bind (J.type.here (wpAny_bind (Jb.type.here ?_)))
  split
  · refine wpAny_bind ((PySem.W.looks_subIn I.kIn hs).here ?_)
    simp only [if_true]
    refine wpAny_bind (wpAny_mono one (fun r s' z => ?_) fun _ _ e => e)
    obtain ⟨v, rfl, hq⟩ := z
    exact wpAny_bind (wpAny_rule (wpAny_pure hq))
  · rename_i q
    exact absurd (by simp; exact hne) q
/-- both of one of the two classes -/
def rEqF (K : PySem.W.Frag) (C1 C2 : Addr) (sp : Sp) (E : XK) (G : VK → Bool → Hp → Prop) : R2 := fun x y H Q => ∃ a dx fs Cx b dy gs Cy, x = .ref a ∧ H a = some (.ins Cx dx fs) ∧ y = .ref b ∧ H b = some (.ins Cy dy gs) ∧ (Cx = C1 ∨ Cx = C2) ∧ (Cy = C1 ∨ Cy = C2) ∧ TyX K H (.ref b) (.ref Cy) ∧ EqS sp E x y H (G Q) ∧ EqS sp E y x H (G Q)
def gEq : VK → Bool → Hp → Prop := fun Q b H' => Q (.bl b) H'
def gNe : VK → Bool → Hp → Prop := fun Q b H' => ∃ b', V.bl b = .bl b' ∧ Q (.bl !b') H'
end
section
variable {X : Cx} {CX : CXT} {C1 C2 f : Addr} {fd : FuncData} {ps : List Str} {sp : Sp} {E : XK} {n : Nat}
theorem op_eqF (F : FnOk X.prog X.w X.K X.mg X.base CX n f fd ps sp) (T1 : OwnQ X.K C1 f) (T2 : OwnQ X.K C2 f) (k21 : PySem.W.kitOne X.K (.ref C2) (.ref C1) = some true) (k12 : PySem.W.kitOne X.K (.ref C1) (.ref C2) = some false) (hb : L2.Binds X.K fd ps []) (hx : Passes CX X E) (hr : Room n X.A) : OpR X (compareOp .Eq) (rEqF X.K C1 C2 sp E gEq) := by
  intro pins s σ H x y u v Q I rx ry h
  obtain ⟨a, dx, fs, Cx, b, dy, gs, Cy, rfl, ha, rfl, hb', hCx, hCy, ty, h1, h2⟩ := h
  obtain ⟨hne, hnf⟩ := kit_sub k12
  have same : ∀ C, Cx = C → Cy = C → OwnQ X.K C f → wpAny (model X.prog X.w) X.A (compareOp .Eq u v) (EP X pins σ Q) X.xe s := fun C e1 e2 T => by
    subst e1
    subst e2
    exact op_eqO F T hb hx hr pins s σ H _ _ u v Q I rx ry ⟨a, dx, fs, rfl, ha, ⟨_, ty, notFirst_self⟩, h1⟩
  rcases hCx with rfl | rfl <;> rcases hCy with rfl | rfl
  · exact same _ rfl rfl T1
  · cases rx
    cases ry
    exact eq_sub F T2 hb hx hr I ha hb' hne (kit_subT k21 (Ne.symm hne)) h2
  · exact op_eqO F T2 hb hx hr pins s σ H _ _ u v Q I rx ry ⟨a, dx, fs, rfl, ha, ⟨_, ty, hnf⟩, h1⟩
  · exact same _ rfl rfl T2
theorem op_neF (F : FnOk X.prog X.w X.K X.mg X.base CX n f fd ps sp) (T1 : OwnQ X.K C1 f) (T2 : OwnQ X.K C2 f) (k21 : PySem.W.kitOne X.K (.ref C2) (.ref C1) = some true) (k12 : PySem.W.kitOne X.K (.ref C1) (.ref C2) = some false) (hb : L2.Binds X.K fd ps []) (hx : Passes CX X E) (hr : Room (n + 1) X.A) : OpR X (compareOp .NotEq) (rEqF X.K C1 C2 sp E gNe) := by
  intro pins s σ H x y u v Q I rx ry h
  obtain ⟨a, dx, fs, Cx, b, dy, gs, Cy, rfl, ha, rfl, hb', hCx, hCy, ty, h1, h2⟩ := h
  obtain ⟨hne, hnf⟩ := kit_sub k12
  have same : ∀ C, Cx = C → Cy = C → OwnQ X.K C f → wpAny (model X.prog X.w) X.A (compareOp .NotEq u v) (EP X pins σ Q) X.xe s := fun C e1 e2 T => by
    subst e1
    subst e2
    exact op_neO F T hb hx hr pins s σ H _ _ u v Q I rx ry ⟨a, dx, fs, rfl, ha, ⟨_, ty, notFirst_self⟩, h1⟩
  rcases hCx with rfl | rfl <;> rcases hCy with rfl | rfl
  · exact same _ rfl rfl T1
  · cases rx
    cases ry
    exact ne_sub F T2 hb hx hr I ha hb' hne (kit_subT k21 (Ne.symm hne)) h2
  · exact op_neO F T2 hb hx hr pins s σ H _ _ u v Q I rx ry ⟨a, dx, fs, rfl, ha, ⟨_, ty, hnf⟩, h1⟩
  · exact same _ rfl rfl T2
end
end Us
set_option maxRecDepth 100000
set_option maxHeartbeats 2000000
/-! == of a class and its subclass; is of flags; zip; range with a step; list(range(..)); isinstance of anything -/
namespace L2
open PySem PySem.Spec PyProof.Rows
/-- the ints a, a + c .. -/
def stV (a c : Int) (n : Nat) : List V := (List.range n).map fun i => V.int (a + (i : Nat) * c)
theorem vals_st {a c : Int} {n : Nat} {acc : Array Value} (h : ItemsOf (fun i v => ∃ t, v = .int (a + i * c) t) acc n) : Vals (stV a c n) acc.toList := by
  have e : acc.toList.length = n := by rw [Array.length_toList]; exact h.1
  unfold stV
  rw [← e]
  refine vals_of_get acc.toList _ fun j u hj => ?_
  obtain ⟨t, rfl⟩ := h.2 j u (by rw [← hj, Array.getElem?_toList])
  exact ⟨t, rfl⟩
def tLst3 (ta : TA) : TE := fun σ H Q => ta σ H fun vs H1 => ∃ (i j c : Int) (n : Nat), vs = [.int i, .int j, .int c] ∧ RgC i j c n ∧ n ≤ 2 ^ 24 ∧ ∀ q, H1 q = none → Q (.ref q) (upd H1 q (.lst (stV i c n)))
section
variable {X : Cx}
theorem pe_list3 {e1 e2 e3 : Expr} {ta : TA} {p pr pos pos' : Pos} (hc : X.calm = true) (hg : Gl X "list") (hm : X.mg "list" = none) (hgr : Gl X "range") (hmr : X.mg "range" = none) (ha : PA X [e1, e2, e3] ta)
    (hs : starEach [e1, e2, e3] X.env = (false, eval e1 X.env) :: starEach [e2, e3] X.env := by rfl) (hpl : (backTo pos (starEach [e2, e3] X.env)).any (·.1) = false := by rfl)
    (na : starEach [.Call (.Name "range" pr) [e1, e2, e3] [] pos] X.env = (false, eval (.Call (.Name "range" pr) [e1, e2, e3] [] pos) X.env) :: starEach [] X.env := by rfl) :
    PE X (.Call (.Name "list" p) [.Call (.Name "range" pr) [e1, e2, e3] [] pos] [] pos') (tLst3 ta) := by
  refine ⟨fun pins s σ H Q I h => ?_⟩
  refine Call_ (ld_blt I hg hm boot_list (PyProof.Rows.callWith_type1 (args_cons ?_ na) na))
  refine Call_ (ld_blt I hgr hmr boot_range (PyProof.Rows.callWith_type1 (thn (ha.run pos pins s σ H _ I h) fun us s1 ⟨vs, H1, I1, r1, q1⟩ => ?_) hs hpl))
  obtain ⟨i, j, k, n, e, ⟨c0, c1, c2, c3⟩, hn, q⟩ := q1
  subst e
  cases r1 with
  | cons r rr =>
    cases rr with
    | cons r' rr =>
      cases rr with
      | cons r'' rr =>
        cases rr
        obtain ⟨t, rfl⟩ := r
        obtain ⟨t', rfl⟩ := r'
        obtain ⟨t'', rfl⟩ := r''
        refine call_range_3 c0 ?_ (.inl (PyProof.noPylong_small c1))
        refine args_nil ?_
        have I2 : Inv X pins σ H1 { s1 with heap := s1.heap.push { cls := .type "range", data := .fields #[.int i t, .int j t', .int k t''] } } := I1.kept (t' := s1.toks) fun b o e => Heap.get?_push_of_some _ e
        refine call_list_range (n := n) (I2.ok.hd hc) (IsRange.new ..) c2 c3 hn fun h' tk acc c' hk e' hi => ?_
        refine ⟨.ref _, upd H1 _ (.lst (stV i k n)), I2.laid hk (Nat.le_refl _) (show ObjOk X.prog X.w _ _ _ (.lst (stV i k n)) from ⟨?_, acc.toList, c', vals_st hi, ?_⟩), rfl, q _ (I2.hok.fresh (Nat.le_refl _))⟩
        · unfold stV; rw [List.length_map, List.length_range, sizeLine_eq]; omega
        · rw [Array.toArray_toList]; exact e'
end
end L2
namespace Dl
open PySem PySem.Spec PyProof.Rows L2 Us
section
variable {X : Cx} {K : PySem.W.Frag} {W : WX} {e : Expr} {te : TE} {t : DE} {pos : Pos} {a : Addr} {B : Hp}
/-! ### == of a class and its subclass -/
def eqFD (c1 c2 : Str) (R : D → D → Bool → Prop) (g : Bool → Bool) : D → D → (D → Prop) → Prop := fun x y P => match x, y with
  | .ins a n1 d1, .ins b n2 d2 => (a ∈ [c1, c2] ∧ b ∈ [c1, c2]) ∧ ∃ r, R (.ins a n1 d1) (.ins b n2 d2) r ∧ R (.ins b n2 d2) (.ins a n1 d1) r ∧ P (.bl (g r))
  | _, _ => False
theorem two_of {K : PySem.W.Frag} {a c1 c2 : Str} (h : a ∈ [c1, c2]) : He.ga K a = He.ga K c1 ∨ He.ga K a = He.ga K c2 := by
  rcases List.mem_cons.mp h with rfl | h
  · exact .inl rfl
  · rw [List.mem_singleton.mp h]; exact .inr rfl
theorem own_of {K : PySem.W.Frag} {a c1 c2 : Str} (h1 : OwnC K (He.ga K c1)) (h2 : OwnC K (He.ga K c2)) (h : a ∈ [c1, c2]) : OwnC K (He.ga K a) := by
  rcases List.mem_cons.mp h with rfl | h
  · exact h1
  · rw [List.mem_singleton.mp h]; exact h2
theorem l_eqF {c1 c2 : Str} {R : D → D → Bool → Prop} {E : XK} (h1 : OwnC K (He.ga K c1)) (h2 : OwnC K (He.ga K c2)) : LOp K (rEqF K (He.ga K c1) (He.ga K c2) (spEqD K R) E gEq) (eqFD c1 c2 R id) := fun a B H x y u v P Q s ex ey r k => by
  match x, y, r with
  | .ins a1 n1 d1, .ins a2 n2 d2, ⟨⟨m1, m2⟩, b, hR, hR', hP⟩ =>
    obtain ⟨p, dx, fs, us, rfl, hp, e1, r1⟩ := Emb.ins ex
    obtain ⟨q, dy, gs, ws, rfl, hq, e2, r2⟩ := Emb.ins ey
    exact ⟨p, dx, fs, _, q, dy, gs, _, rfl, s _ _ hp, rfl, s _ _ hq, two_of m1, two_of m2, ins_ty (s _ _ hq) (own_of h1 h2 m2), ⟨a, B, _, _, _, _, b, rfl, s, ex, ey, hR, b, rfl, k _ B H _ (Stp.refl s) emb_bl hP⟩, ⟨a, B, _, _, _, _, b, rfl, s, ey, ex, hR', b, rfl, k _ B H _ (Stp.refl s) emb_bl hP⟩⟩
theorem l_neF {c1 c2 : Str} {R : D → D → Bool → Prop} {E : XK} (h1 : OwnC K (He.ga K c1)) (h2 : OwnC K (He.ga K c2)) : LOp K (rEqF K (He.ga K c1) (He.ga K c2) (spEqD K R) E gNe) (eqFD c1 c2 R not) := fun a B H x y u v P Q s ex ey r k => by
  match x, y, r with
  | .ins a1 n1 d1, .ins a2 n2 d2, ⟨⟨m1, m2⟩, b, hR, hR', hP⟩ =>
    obtain ⟨p, dx, fs, us, rfl, hp, e1, r1⟩ := Emb.ins ex
    obtain ⟨q, dy, gs, ws, rfl, hq, e2, r2⟩ := Emb.ins ey
    exact ⟨p, dx, fs, _, q, dy, gs, _, rfl, s _ _ hp, rfl, s _ _ hq, two_of m1, two_of m2, ins_ty (s _ _ hq) (own_of h1 h2 m2), ⟨a, B, _, _, _, _, b, rfl, s, ex, ey, hR, b, rfl, b, rfl, k _ B H _ (Stp.refl s) emb_bl hP⟩, ⟨a, B, _, _, _, _, b, rfl, s, ey, ex, hR', b, rfl, b, rfl, k _ B H _ (Stp.refl s) emb_bl hP⟩⟩
/-! ### is, is not of flags -/
def isB : D → D → (D → Prop) → Prop := fun x y P => match x, y with
  | .bl a, .bl b => P (.bl (decide (a = b)))
  | _, _ => False
def ntB : D → D → (D → Prop) → Prop := fun x y P => match x, y with
  | .bl a, .bl b => P (.bl (!decide (a = b)))
  | _, _ => False
theorem l_isB : LOp K rIsB isB := fun a B H x y u v P Q s ex ey r k => by
  unfold isB at r
  split at r
  · cases Emb.bl ex
    cases Emb.bl ey
    exact ⟨_, _, rfl, rfl, k _ B H _ (Stp.refl s) emb_bl r⟩
  · exact r.elim
theorem l_ntB : LOp K rNotB ntB := fun a B H x y u v P Q s ex ey r k => by
  unfold ntB at r
  split at r
  · cases Emb.bl ex
    cases Emb.bl ey
    exact ⟨_, _, rfl, rfl, k _ B H _ (Stp.refl s) emb_bl r⟩
  · exact r.elim
/-! ### zip -/
def zipD (xs ys : List D) : List D := (List.range (min xs.length ys.length)).map fun (i : Nat) => .tup [xs.getD i .non, ys.getD i .non]
theorem zipD_len (xs ys : List D) : (zipD xs ys).length = min xs.length ys.length := by simp [zipD]
theorem zipD_get {xs ys : List D} {i : Nat} {d e : D} (h : xs[i]? = some d) (h2 : ys[i]? = some e) : (zipD xs ys)[i]? = some (.tup [d, e]) := by
  have hi := (List.getElem?_eq_some_iff.mp h).1
  have hj := (List.getElem?_eq_some_iff.mp h2).1
  unfold zipD
  rw [List.getElem?_map, List.getElem?_range (by omega)]
  show some (D.tup [xs.getD i .non, ys.getD i .non]) = _
  rw [List.getD_eq_getElem?_getD, h, List.getD_eq_getElem?_getD, h2]
  rfl
theorem jok_zip {p q : Addr} {us ws : List V} {xs ys : List D} (h : B p = some (.lst us)) (r : EmbL K a B xs us) (h2 : B q = some (.lst ws)) (r2 : EmbL K a B ys ws) : JOk K a (Itz K p q) (zipD xs ys) B := by
  have le := r.length
  have le2 := r2.length
  have sq : ∀ {B2 H2 : Hp}, Same B B2 → Same B2 H2 → SqL K H2 p us := fun s1 s2 => SqL.of (s2 _ _ (s1 _ _ h))
  have sq2 : ∀ {B2 H2 : Hp}, Same B B2 → Same B2 H2 → SqL K H2 q ws := fun s1 s2 => SqL.of (s2 _ _ (s1 _ _ h2))
  refine ⟨fun i B2 H2 s1 s2 hi => by rw [zipD_len] at hi; exact ⟨us, ws, us[i]'(by omega), ws[i]'(by omega), sq s1 s2, sq2 s1 s2, by simp, by simp⟩, fun i B2 H2 x H3 s1 s2 hi y => ?_, fun i B2 H2 s1 s2 hi => by rw [zipD_len] at hi; exact ⟨us, ws, sq s1 s2, sq2 s1 s2, by omega⟩⟩
  rw [zipD_len] at hi
  obtain ⟨T, u, w, rfl, hT, rfl, y, y2⟩ := y
  have hx := y us (sq s1 s2)
  have hy := y2 ws (sq2 s1 s2)
  obtain ⟨w1, hw, ew⟩ := r.get (List.getElem?_eq_getElem (show i < xs.length by omega))
  obtain ⟨w2, hw2, ew2⟩ := r2.get (List.getElem?_eq_getElem (show i < ys.length by omega))
  rw [hx] at hw
  cases hw
  rw [hy] at hw2
  cases hw2
  have m := Same.new (o := .tup [u, w]) (bfresh s2 hT)
  exact ⟨_, zipD_get (List.getElem?_eq_getElem (show i < xs.length by omega)) (List.getElem?_eq_getElem (show i < ys.length by omega)), _, Stp.new s2 hT, emb_tup upd_same (.cons ((ew.mono s1).mono m) (.cons ((ew2.mono s1).mono m) .nil))⟩
def dZip (t : DA) : DA := fun s E P => t s E fun ds s1 => match ds with
  | [.lst xs, .lst ys] => P (zipD xs ys) s1
  | _ => False
theorem di_zip {e1 e2 : Expr} {ta : TA} {td : DA} {es : List Expr} {c0 : Nat} {tp p0 : Pos} (hm : X.mg "zip" = none) (ha : DPA X K W [e1, e2] ta td) (hg : Gl X "zip" := by rfl) (hs : starEach [e1, e2] X.env = (false, eval e1 X.env) :: starEach [e2] X.env := by rfl) (hpl : (backTo pos (starEach [e2] X.env)).any (·.1) = false := by rfl) :
    DPI X K W (.Tuple es c0 tp) (.Call (.Name "zip" p0) [e1, e2] [] pos) (iZip K ta) (dZip td) :=
  ⟨ha.k, by have hk := ha.k; subst hk; exact pi_zip hg hm ha.pe hs hpl, fun a B0 H0 s σ B H E P Q R L ht k =>
    ha.sn a B0 H0 s σ B H E _ _ R L ht fun ds s1 v B1 H1 f em q => by
      match ds, q with
      | [.lst xs, .lst ys], q =>
        obtain ⟨u, w, rfl, hu, hw⟩ := embl2 em
        obtain ⟨p, us, rfl, hp, r⟩ := Emb.lst hu
        obtain ⟨p2, ws, rfl, hp2, r2⟩ := Emb.lst hw
        exact ⟨p, p2, us, ws, rfl, SqL.of (f.rel.gr.bh _ _ hp), SqL.of (f.rel.gr.bh _ _ hp2), k _ s1 _ B1 H1 f (jok_zip hp r hp2 r2) q⟩⟩
/-! ### range with a step -/
def stepD (lo c : Int) (n : Nat) : List D := (List.range n).map fun (k : Nat) => .int (lo + (k : Nat) * c)
theorem stepD_len (lo c : Int) (n : Nat) : (stepD lo c n).length = n := by simp [stepD]
theorem stepD_at {lo c : Int} {n i : Nat} {d : D} (h : (stepD lo c n)[i]? = some d) : i < n ∧ d = .int (lo + (i : Nat) * c) := by
  have hi := (List.getElem?_eq_some_iff.mp h).1
  rw [stepD_len] at hi
  unfold stepD at h
  rw [List.getElem?_map, List.getElem?_range hi] at h
  exact ⟨hi, (Option.some.inj h).symm⟩
theorem jok_step {lo c : Int} {n : Nat} : JOk K a (Itc lo c n) (stepD lo c n) B := by
  have le := stepD_len lo c n
  refine ⟨fun i B2 H2 s1 s2 hi => by rw [le] at hi; exact hi, fun i B2 H2 x H3 s1 s2 hi y => ?_, fun i B2 H2 s1 s2 hi => by rw [le] at hi; exact Nat.le_of_eq hi.symm⟩
  obtain ⟨rfl, rfl⟩ := y
  rw [le] at hi
  exact ⟨_, by unfold stepD; rw [List.getElem?_map, List.getElem?_range hi]; rfl, B2, Stp.refl s2, emb_int⟩
def dStep (t : DA) : DA := fun s E P => t s E fun ds s1 => match ds with
  | [.int i, .int j, .int c] => ∃ n, RgC i j c n ∧ P (stepD i c n) s1
  | _ => False
theorem emb3 {d1 d2 d3 : D} {us : List V} (h : EmbL K a B [d1, d2, d3] us) : ∃ u v w, us = [u, v, w] ∧ Emb K a B d1 u ∧ Emb K a B d2 v ∧ Emb K a B d3 w := by
  obtain ⟨u, r, rfl, h1, h2⟩ := h.uncons
  obtain ⟨u2, u3, rfl, h3, h4⟩ := embl2 h2
  exact ⟨u, u2, u3, rfl, h1, h3, h4⟩
theorem di_step {tg e1 e2 e3 : Expr} {ta : TA} {td : DA} {p : Pos} (hm : X.mg "range" = none) (ha : DPA X K W [e1, e2, e3] ta td) (hg : Gl X "range" := by rfl) (hs : starEach [e1, e2, e3] X.env = (false, eval e1 X.env) :: starEach [e2, e3] X.env := by rfl) (hpl : (backTo pos (starEach [e2, e3] X.env)).any (·.1) = false := by rfl) :
    DPI X K W tg (.Call (.Name "range" p) [e1, e2, e3] [] pos) (iRng3 ta) (dStep td) := ⟨ha.k, pi_range3 hg hm ha.pe hs hpl, fun a B0 H0 s σ B H E P Q R L ht k =>
  ha.sn a B0 H0 s σ B H E _ _ R L ht fun ds s1 v B1 H1 f em q => by
    match ds, q with
    | [.int i, .int j, .int c], ⟨n, hn, q⟩ =>
      obtain ⟨u, v, w, rfl, h1, h3, h4⟩ := emb3 em
      cases Emb.int h1
      cases Emb.int h3
      cases Emb.int h4
      exact ⟨i, j, c, n, rfl, hn, k _ s1 _ B1 H1 f jok_step q⟩⟩
theorem embl_st {lo c : Int} {n : Nat} : EmbL K a B (stepD lo c n) (stV lo c n) := by
  unfold stepD stV
  generalize List.range n = l
  induction l with
  | nil => exact .nil
  | cons x l ih => exact .cons emb_int ih
/-- list(range(i, j, c)) -/
def dList3 (t : DA) : DE := fun s E P => t s E fun ds s1 => match ds with
  | [.int i, .int j, .int c] => ∃ n, (RgC i j c n ∧ n ≤ 2 ^ 24) ∧ P (.lst (stepD i c n)) s1
  | _ => False
theorem de_list3 {e1 e2 e3 : Expr} {ta : TA} {td : DA} {p pr pos' : Pos} (hm : X.mg "list" = none) (hmr : X.mg "range" = none) (ha : DPA X K W [e1, e2, e3] ta td) (hc : X.calm = true := by rfl) (hg : Gl X "list" := by rfl) (hgr : Gl X "range" := by rfl)
    (hs : starEach [e1, e2, e3] X.env = (false, eval e1 X.env) :: starEach [e2, e3] X.env := by rfl) (hpl : (backTo pos (starEach [e2, e3] X.env)).any (·.1) = false := by rfl)
    (na : starEach [.Call (.Name "range" pr) [e1, e2, e3] [] pos] X.env = (false, eval (.Call (.Name "range" pr) [e1, e2, e3] [] pos) X.env) :: starEach [] X.env := by rfl) :
    DPE X K W (.Call (.Name "list" p) [.Call (.Name "range" pr) [e1, e2, e3] [] pos] [] pos') (tLst3 ta) (dList3 td) :=
  ⟨ha.k, pe_list3 hc hg hm hgr hmr ha.pe hs hpl na, fun a B0 H0 s σ B H E P Q R L ht k =>
    ha.sn a B0 H0 s σ B H E _ _ R L ht fun ds s1 v B1 H1 f em q => by
      match ds, q with
      | [.int i, .int j, .int c], ⟨n, ⟨hn, h24⟩, q⟩ =>
        obtain ⟨u, v, w, rfl, h1, h3, h4⟩ := emb3 em
        cases Emb.int h1
        cases Emb.int h3
        cases Emb.int h4
        exact ⟨i, j, c, n, rfl, hn, h24, fun r hr => k _ s1 _ _ _ (f.trans (.pure f.rel (Stp.new f.rel.gr.bh hr))) (emb_lst upd_same embl_st) q⟩⟩
/-- list(range(j)) -/
def dList1 (t : DE) : DE := fun s E P => t s E fun d s1 => match d with
  | .int j => (0 ≤ j ∧ j ≤ 16777216) ∧ P (.lst (stepD 0 1 j.toNat)) s1
  | _ => False
theorem de_list1 {p pr pos' : Pos} (hm : X.mg "list" = none) (hmr : X.mg "range" = none) (h : DPE X K W e te t) (hc : X.calm = true := by rfl) (hg : Gl X "list" := by rfl) (hgr : Gl X "range" := by rfl)
    (hs : starEach [e] X.env = (false, eval e X.env) :: starEach [] X.env := by rfl)
    (na : starEach [.Call (.Name "range" pr) [e] [] pos] X.env = (false, eval (.Call (.Name "range" pr) [e] [] pos) X.env) :: starEach [] X.env := by rfl) :
    DPE X K W (.Call (.Name "list" p) [.Call (.Name "range" pr) [e] [] pos] [] pos') (tLstRg (tRg1 te)) (dList1 t) :=
  ⟨h.k, pe_listRg hc hg hm (prg_1 hgr hmr h.pe hs) na, fun a B0 H0 s σ B H E P Q R L ht k =>
    h.sn a B0 H0 s σ B H E _ _ R L ht fun d s1 v B1 H1 f em q => by
      cases d with
      | int j =>
        cases Emb.int em
        obtain ⟨⟨h0, h1⟩, q⟩ := q
        have e : rgV 0 j = stV 0 1 j.toNat := by
          unfold rgV stV
          rw [Int.sub_zero]
          exact List.map_congr_left fun i _ => by rw [Int.mul_one]
        refine ⟨j, rfl, RgOk.of_le (by decide) h1 (by decide) h0, fun r hr => ?_⟩
        rw [e]
        exact k _ s1 _ _ _ (f.trans (.pure f.rel (Stp.new f.rel.gr.bh hr))) (emb_lst upd_same embl_st) q
      | _ => exact q.elim⟩
/-! ### isinstance(e, C) of anything -/
def IscOkA (K : PySem.W.Frag) (x : Str) (cs : List (Str × Bool)) : Prop := IscOk K x cs ∧ ∀ n ∈ sevenT, PySem.W.kitOne K (.type n) (.ref (He.ga K x)) = some false
def dIscA (cs : List (Str × Bool)) (t : DE) : DE := fun s E P => t s E fun d s1 => match d with
  | .ins c _ _ => ∃ b, (c, b) ∈ cs ∧ P (.bl b) s1
  | .hand => False
  | _ => P (.bl false) s1
theorem de_iscA {cs : List (Str × Bool)} {x : Str} {p p1 : Pos} (hc : IscOkA K x cs) (hm : X.mg "isinstance" = none) (hmx : X.mg x = some (.ref (He.ga K x))) (h : DPE X K W e te t)
    (hg : Gl X "isinstance" := by rfl) (hgx : Gl X x := by rfl) (hdb : (x == ("__debug__" : Str)) = false := by decide)
    (s1 : starEach [e, .Name x p1] X.env = (false, eval e X.env) :: starEach [.Name x p1] X.env := by rfl) (s2 : starEach [.Name x p1] X.env = (false, eval (.Name x p1) X.env) :: starEach [] X.env := by rfl) (hpl : (backTo pos (starEach [.Name x p1] X.env)).any (·.1) = false := by rfl) :
    DPE X K W (.Call (.Name "isinstance" p) [e, .Name x p1] [] pos) (tCB (rIsi K) (tCons te (tCons (tC (.ref (He.ga K x))) tNil))) (dIscA cs t) :=
  ⟨h.k, by have hk := h.k; subst hk; exact pe_callB call_isi hg hm (by decide +kernel) (pa_cons h.pe (pa_cons (pe_glob (v := .ref (He.ga X.K x)) hgx hmx rfl hdb) pa_nil s2) s1) (by decide) (by decide) s1 hpl, fun a B0 H0 s σ B H E P Q R L ht k =>
    h.sn a B0 H0 s σ B H E _ _ R L ht fun d s1 v B1 H1 f em q => by
      have ot : isOkP d → P (.bl false) s1 → rIsi K [v, .ref (He.ga K x)] H1 Q := fun ok q => by
        obtain ⟨n, hn, ty⟩ := emb_ty f.rel.gr.bh ok em
        exact ⟨_, _, _, _, false, rfl, .own _, ty, hc.2 n hn, k _ s1 _ B1 H1 f emb_bl q⟩
      cases d with
      | ins c ns ds =>
        obtain ⟨b, qb, q⟩ := q
        obtain ⟨p, dx, fs, us, rfl, hp, e1, r⟩ := Emb.ins em
        obtain ⟨c0, hk⟩ := hc.1 _ qb
        exact ⟨_, _, _, _, b, rfl, .own _, .base (.ins (f.rel.gr.bh _ _ hp) c0.cl c0.ha c0.hn c0.ht c0.hm), hk, k _ s1 _ B1 H1 f emb_bl q⟩
      | hand => exact q.elim
      | _ => exact ot True.intro q⟩
end
end Dl
set_option maxRecDepth 100000
set_option maxHeartbeats 2000000
/-! sep.join(list of texts); texts by their codes -/
namespace Dl
open PySem PySem.Spec PyProof.Rows L2 Us
/-- the text of some codes -/
abbrev cS (l : List Nat) : Str := ⟨l.toArray⟩
theorem cS_len (l : List Nat) : (cS l).length = l.length := by show l.toArray.size = _; simp
theorem cS_app (a b : List Nat) : cS a ++ cS b = cS (a ++ b) := by
  show Str.append _ _ = _
  unfold Str.append
  simp
theorem cS_cps (z : Str) : cS z.cps.toList = z := by simp
theorem cS_inj {a b : List Nat} (h : cS a = cS b) : a = b := by
  have := congrArg (fun z : Str => z.cps.toList) h
  simpa using this
theorem join0 : ∀ ys : List (List Nat), Txt.join (cS []) (ys.map cS) = cS ys.flatten
  | [] => by rw [TL.join_eq]; rfl
  | [y] => by rw [TL.join_eq]; simp [Str.join]
  | y :: y2 :: r => by
    have ih := join0 (y2 :: r)
    rw [TL.join_eq] at ih ⊢
    show cS y ++ cS [] ++ Str.join (cS []) ((y2 :: r).map cS) = _
    rw [ih, cS_app, cS_app]
    simp
section
variable {X : Cx} {K : PySem.W.Frag} {W : WX} {o e : Expr} {to te : TE} {dO dE : DE} {pos apos : Pos}
def dJoinS (ta tb : DE) : DE := fun s E P => ta s E fun x s1 => match x with
  | .str a => tb s1 E fun y s2 => (match y with
    | .lst ds => ∃ ys : List Str, ds = ys.map D.str ∧ (ys.map (·.length)).sum + ys.length * a.length ≤ 16777216 ∧ P (.str (Txt.join a ys)) s2
    | _ => False)
  | _ => False
theorem embJ {a : Addr} {B : Hp} : ∀ {ys : List Str} {us : List V}, EmbL K a B (ys.map D.str) us → us = ys.map V.str
  | [], _, h => h.of_nil
  | y :: ys, us, h => by
    obtain ⟨u, r, rfl, h1, h2⟩ := h.uncons
    cases Emb.str h1
    rw [embJ h2]; rfl
theorem de_join1 (ho : DPE X K W o to dO) (he : DPE X K W e te dE) (hs : starEach [e] X.env = [(false, eval e X.env)] := by rfl) (hbase : attributeBase o "join" X.env (eval o X.env) = eval o X.env := by rfl) (hline : (apos.endLine == pos.line) = true := by rfl) :
    DPE X K W (.Call (.Attribute o "join" apos) [e] [] pos) (tM1 (fun x xs H Q => ∃ a p, ∃ ys : List Str, x = .str a ∧ xs = [.ref p] ∧ (SqL K H p (ys.map V.str) ∨ SqT K H p (ys.map V.str)) ∧ (ys.map (·.length)).sum + ys.length * a.length ≤ 16777216 ∧ Q (.str (Txt.join a ys)) H) to te) (dJoinS dO dE) :=
  ⟨ho.k, by have hk := ho.k; subst hk; exact pe_join ho.pe he.pe hs hbase hline, fun a B0 H0 s σ B H E P Q R L ht k =>
    ho.sn a B0 H0 s σ B H E _ _ R L ht fun x s1 u B1 H1 f1 e1 q1 => by
      cases x with
      | str z =>
        cases Emb.str e1
        refine ⟨⟨z, rfl⟩, he.sn a B0 H0 s1 σ B1 H1 E _ _ f1.rel L q1 fun y s2 v B2 H2 f2 e2 q2 => ?_⟩
        cases y with
        | lst ds =>
          obtain ⟨ys, rfl, hz, q⟩ := q2
          obtain ⟨p, us, rfl, hp, em⟩ := Emb.lst e2
          have eu := embJ em
          subst eu
          exact ⟨z, p, ys, rfl, rfl, .inl (SqL.of (f2.rel.gr.bh _ _ hp)), hz, k _ s2 _ B2 H2 (f1.trans f2) emb_str q⟩
        | _ => exact q2.elim
      | _ => exact q1.elim⟩
end
end Dl
set_option maxRecDepth 100000
set_option maxHeartbeats 2000000
namespace K10
open PySem PySem.Spec PyProof.Rows L2 Us Dl
/-! ### the text of a kind -/
def ktx : Kd → List Nat
  | .lt i => [97 + i.toNat]
  | .pr l r => (match l with
    | .lt i => [97 + i.toNat]
    | .pr a b => 40 :: (ktx (.pr a b) ++ [41])) ++ [32, 62, 32] ++ ktx r
def isPr : Kd → Bool
  | .pr _ _ => true
  | .lt _ => false
def kin (k : Kd) : List Nat := if isPr k then 40 :: (ktx k ++ [41]) else ktx k
theorem ktx_pr (l r : Kd) : ktx (.pr l r) = kin l ++ [32, 62, 32] ++ ktx r := by cases l <;> rfl
inductive Ki where
  | kd (k : Kd)
  | tx (z : List Nat)
def Ki.d : Ki → D
  | .kd k => k.d
  | .tx z => .str (cS z)
def Ki.c : Ki → List Nat
  | .kd k => ktx k
  | .tx z => z
def Ki.w : Ki → Nat
  | .kd k => 4 * k.size
  | .tx _ => 1
def Ki.ok : Ki → Prop
  | .kd k => k.good
  | .tx z => z.length ≤ 3
def cods (l : List Ki) : List Nat := (l.reverse.map Ki.c).flatten
def wsum (l : List Ki) : Nat := (l.map Ki.w).sum
theorem cods_snoc (l : List Ki) (x : Ki) : cods (l ++ [x]) = x.c ++ cods l := by simp [cods]
theorem wsum_app (a b : List Ki) : wsum (a ++ b) = wsum a + wsum b := by simp [wsum]
theorem size_pos : ∀ k : Kd, 0 < k.size
  | .lt _ => Nat.succ_pos _
  | .pr _ _ => Nat.succ_pos _
theorem wsum_len : ∀ l : List Ki, l.length ≤ wsum l
  | [] => Nat.le_refl _
  | x :: l => by
    have := wsum_len l
    have : 1 ≤ x.w := by
      cases x with
      | kd k => have := size_pos k; show 1 ≤ 4 * k.size; omega
      | tx z => exact Nat.le_refl _
    show l.length + 1 ≤ x.w + wsum l
    omega
theorem sum_le3 : ∀ {fs : List (List Nat)}, (∀ f ∈ fs, f.length ≤ 3) → ((fs.map cS).map (·.length)).sum ≤ 3 * fs.length
  | [], _ => Nat.le_refl _
  | f :: fs, h => by
    have := sum_le3 (fs := fs) fun x hx => h x (List.mem_cons_of_mem _ hx)
    have h1 := h f (List.mem_cons_self ..)
    rw [List.map_cons, List.map_cons, List.sum_cons, List.length_cons, cS_len]
    omega
theorem small_at {i : Int} (h0 : 0 ≤ i) (h1 : i ≤ 25) : atI (Str.ofString "abcdefghijklmnopqrstuvwxyz").cps.toList i = some (97 + i.toNat) := by
  have e : (Str.ofString "abcdefghijklmnopqrstuvwxyz").cps.toList = (List.range 26).map (97 + ·) := by decide +kernel
  rw [e]
  have : ((List.range 26).map (97 + ·))[i.toNat]? = some (97 + i.toNat) := by
    rw [List.getElem?_map, List.getElem?_range (by omega)]; rfl
  have := atI_nat this
  rw [Int.toNat_of_nonneg h0] at this
  exact this
def dKText : DSp := fun ds P _ => ∃ k : Kd, ds = [k.d] ∧ k.good ∧ k.size ≤ 200 ∧ P (.str (cS (ktx k)))
section
variable {P : Program} {w : World} {K : PySem.W.Frag} {mg : Str → Option Value} {base : Heap}
theorem ok_kind_text_of (T : Txt K mg) : DefOk P w K mg base CX0 1 "kind_text_of" p_kind_text_of (toSp K dKText) := by
  refine T.d_kind_text_of.dl sc_kind_text_of (fun _ _ _ _ _ _ us hl => match us, hl with | [_], _ => rfl) (fun ds Q E ⟨k, h, _⟩ => by rw [h]; rfl) (fun fa cdv A outer s H E hr => ⟨_, _, (dss_cons (ds_setN (i := 1) sc_kind_text_of.nd rfl (Or.inl rfl) (dn_lst da_nil))
    (dss_cons (ds_setN (i := 2) sc_kind_text_of.nd rfl (Or.inl rfl) (dn_lst (da_cons (dv 0) da_nil)))
    (dss_cons (ds_while PassesOwn.never (dt_cmp op_gt l_bool (de_b1V (len_k rfl) l_len T.f_len (pv 2)) de_int)
      (dss_cons (ds_set (i := 3) sc_kind_text_of.nd rfl (Or.inl rfl) (de_pop (pv 2)))
      (dss_one (ds_if (dt_val (de_isi (cs := []) (n := .str) (fun _ h => nomatch h) T.f_isinstance T.f_str (by decide +kernel) (dv 3)))
        (dss_one (ds_expr (de_mut PySem.F.plainAttrs_list PySem.F.slot_list_append PySem.F.type_list_append mt_append l_app (pv 1) (dv 3))))
        (dss_one (ds_if (dt_val (de_isi (cs := []) (n := .tuple) (fun _ h => nomatch h) T.f_isinstance T.f_tuple (by decide +kernel) (dv 3)))
          (dss_cons (ds_expr (de_mut PySem.F.plainAttrs_list PySem.F.slot_list_append PySem.F.type_list_append mt_append l_app (pv 2) (de_ixV (pv 3) de_int)))
          (dss_cons (ds_expr (de_mut PySem.F.plainAttrs_list PySem.F.slot_list_append PySem.F.type_list_append mt_append l_app (pv 2) de_str))
          (dss_one (ds_expr (de_mut PySem.F.plainAttrs_list PySem.F.slot_list_extend PySem.F.type_list_extend mt_extend l_extL (pv 2) (de_if (dt_val (de_isi (cs := []) (n := .tuple) (fun _ h => nomatch h) T.f_isinstance T.f_tuple (by decide +kernel) (de_ixV (pv 3) de_int))) (de_n (dn_lst (da_cons de_str (da_cons (de_ixV (pv 3) de_int) (da_cons de_str da_nil))))) (de_n (dn_lst (da_cons (de_ixV (pv 3) de_int) da_nil)))))))))
          (dss_one (ds_expr (de_mut PySem.F.plainAttrs_list PySem.F.slot_list_append PySem.F.type_list_append mt_append l_app (pv 1) (de_ix (de_gS T.c_SMALL) (dv 3)))))))))))
    (dss_one (ds_ret (de_join1 de_str (dv 1))))))), fun ds Q E h => ?_⟩)
  obtain ⟨k, rfl, kg, ks, q⟩ := h
  have z0 : (100000 : Nat) ≤ sizeLine := by decide
  have eGt : Str.ofString " > " = cS [32, 62, 32] := by decide +kernel
  have eO : Str.ofString "(" = cS [40] := by decide +kernel
  have eC : Str.ofString ")" = cS [41] := by decide +kernel
  have eE : Str.ofString "" = cS [] := by decide +kernel
  have ps := size_pos k
  (repeat ((conv => whnf); first | (refine And.intro (by first | assumption | exact True.intro | rfl | decide | exact Nat.le_of_ble_eq_true rfl | omega) ?_))); (try (conv => whnf))
  refine ⟨fun m s => ∃ (fs : List (List Nat)) (ws : List Ki) (s3 : Sl), s = [.val k.d, .own ((fs.map cS).map D.str), .own (ws.map Ki.d), s3] ∧ (∀ x ∈ ws, x.ok) ∧ fs.flatten ++ cods ws = ktx k ∧ fs.length + wsum ws ≤ 900 ∧ (∀ f ∈ fs, f.length ≤ 3) ∧ m = wsum ws, ⟨_, [], [.kd k], .no, rfl, fun x hx => by rw [List.mem_singleton.mp hx]; exact kg, by simp [cods, Ki.c], by show 0 + (4 * k.size + 0) ≤ 900; omega, fun f h => (nomatch h), rfl⟩, ?_⟩
  rintro m s ⟨fs, ws, s3, rfl, hw, hc, hl, hf, rfl⟩
  have wl := wsum_len ws
  walk_at "d"
  refine cnd_case (fun c => ?_) (fun c => ?_)
  · have hpos : 0 < (ws.map Ki.d).length := by have := of_decide_eq_true c; omega
    rw [List.length_map] at hpos
    obtain ⟨w0, x, rfl⟩ : ∃ w0 x, ws = w0 ++ [x] := ⟨ws.dropLast, ws.getLast (List.length_pos_iff.mp hpos), (List.dropLast_concat_getLast _).symm⟩
    have hx := hw x (List.mem_append_right _ (List.mem_singleton.mpr rfl))
    have hw0 : ∀ y ∈ w0, y.ok := fun y hy => hw y (List.mem_append_left _ hy)
    have e1 : ((w0 ++ [x]).map Ki.d)[((w0 ++ [x]).map Ki.d).length - 1]? = some x.d := by simp
    have e2 : ((w0 ++ [x]).map Ki.d).dropLast = w0.map Ki.d := by simp
    rw [cods_snoc] at hc
    rw [wsum_app] at hl
    have hws : wsum (w0 ++ [x]) = wsum w0 + x.w := by rw [wsum_app]; rfl
    have hlx : fs.length + (wsum w0 + x.w) ≤ 900 := hl
    rw [hws]
    have fin : ∀ (z : List Nat) (s3 : Sl), z.length ≤ 3 → x.c = z → 0 < x.w → ∃ m', m' < wsum w0 + x.w ∧ ∃ (fs' : List (List Nat)) (ws : List Ki) (s3' : Sl), [Sl.val k.d, .own ((fs.map cS).map D.str ++ [D.str (cS z)]), .own (w0.map Ki.d), s3] = [.val k.d, .own ((fs'.map cS).map D.str), .own (ws.map Ki.d), s3'] ∧ (∀ x ∈ ws, x.ok) ∧ fs'.flatten ++ cods ws = ktx k ∧ fs'.length + wsum ws ≤ 900 ∧ (∀ f ∈ fs', f.length ≤ 3) ∧ m' = wsum ws := fun z s3 hz he hp => by
      refine ⟨_, by omega, fs ++ [z], w0, s3, by rw [List.map_append, List.map_append]; rfl, hw0, ?_, ?_, fun f h => ?_, rfl⟩
      · rw [← hc, he, List.flatten_append]; simp
      · rw [List.length_append, List.length_singleton]; omega
      · rcases List.mem_append.mp h with h | h
        · exact hf f h
        · rw [List.mem_singleton.mp h]; exact hz
    have flen : ((fs.map cS).map D.str).length < sizeLine := by rw [List.length_map, List.length_map]; omega
    walk_at "d"
    rw [e1, e2]
    cases x with
    | tx z =>
      (repeat ((conv => whnf); first | (refine And.intro (by first | assumption | exact True.intro | rfl | decide | exact Nat.le_of_ble_eq_true rfl | omega) ?_))); (try (conv => whnf))
      exact fin z _ hx rfl (Nat.succ_pos 0)
    | kd kk =>
      cases kk with
      | lt i =>
        (repeat ((conv => whnf); first | (refine And.intro (by first | assumption | exact True.intro | rfl | decide | exact Nat.le_of_ble_eq_true rfl | omega) ?_))); (try (conv => whnf))
        rw [small_at hx.1 hx.2]
        (repeat ((conv => whnf); first | (refine And.intro (by first | assumption | exact True.intro | rfl | decide | exact Nat.le_of_ble_eq_true rfl | omega) ?_))); (try (conv => whnf))
        exact fin [97 + i.toNat] _ (Nat.le_of_ble_eq_true rfl) rfl (Nat.succ_pos 3)
      | pr l r =>
        have b0 : atI [l.d, r.d] 0 = some l.d := by
          have := atI_nat (xs := [l.d, r.d]) (j := 0) rfl
          exact this
        have b1 : atI [l.d, r.d] 1 = some r.d := by
          have := atI_nat (xs := [l.d, r.d]) (j := 1) rfl
          exact this
        have hsz : (Ki.kd (.pr l r)).w = 4 * (l.size + r.size + 1) := rfl
        have w0l : (w0.map Ki.d).length ≤ 900 := by rw [List.length_map]; have := wsum_len w0; omega
        (repeat ((conv => whnf); first | (refine And.intro (by first | assumption | exact True.intro | rfl | decide | exact Nat.le_of_ble_eq_true rfl | omega) ?_) | (rw [b0]) | (rw [b1]))); (try (conv => whnf))
        refine ⟨by rw [List.length_append, List.length_singleton]; omega, ?_⟩
        (repeat ((conv => whnf); first | (refine And.intro (by first | assumption | exact True.intro | rfl | decide | exact Nat.le_of_ble_eq_true rfl | omega) ?_) | (rw [b0]) | (rw [b1]))); (try (conv => whnf))
        refine ⟨by cases l <;> exact True.intro, ?_⟩
        have fin2 : ∀ (add : List Ki) (s3 : Sl), (∀ x ∈ add, x.ok) → (add.reverse.map Ki.c).flatten = kin l ++ [32, 62, 32] ++ ktx r → wsum add < 4 * (l.size + r.size + 1) → ∃ m', m' < wsum w0 + (Ki.kd (.pr l r)).w ∧ ∃ (fs' : List (List Nat)) (ws : List Ki) (s3' : Sl), [Sl.val k.d, .own ((fs.map cS).map D.str), .own ((w0 ++ add).map Ki.d), s3] = [.val k.d, .own ((fs'.map cS).map D.str), .own (ws.map Ki.d), s3'] ∧ (∀ x ∈ ws, x.ok) ∧ fs'.flatten ++ cods ws = ktx k ∧ fs'.length + wsum ws ≤ 900 ∧ (∀ f ∈ fs', f.length ≤ 3) ∧ m' = wsum ws := fun add s3 ha he hm => by
          have hw2 := wsum_app w0 add
          refine ⟨wsum (w0 ++ add), by omega, fs, w0 ++ add, s3, rfl, fun x hx => ?_, ?_, by omega, hf, rfl⟩
          · rcases List.mem_append.mp hx with hx | hx
            · exact hw0 x hx
            · exact ha x hx
          · rw [← hc]
            show _ = fs.flatten ++ (ktx (.pr l r) ++ cods w0)
            rw [ktx_pr, ← he]
            simp [cods]
        have sl := size_pos l
        cases l with
        | lt i =>
          (repeat ((conv => whnf); first | (refine And.intro (by first | assumption | exact True.intro | rfl | decide | exact Nat.le_of_ble_eq_true rfl | omega) ?_) | (rw [b0]) | (rw [b1]))); (try (conv => whnf))
          refine ⟨by rw [List.length_append, List.length_append]; show _ + 1 + 1 + 1 ≤ sizeLine; omega, ?_⟩
          have f3 := fin2 [.kd r, .tx [32, 62, 32], .kd (.lt i)] (.val (Kd.d (.pr (.lt i) r))) (fun x h => by
            simp only [List.mem_cons, List.not_mem_nil, or_false] at h
            rcases h with rfl | rfl | rfl
            · exact hx.2
            · exact Nat.le_refl 3
            · exact hx.1) (by simp [Ki.c, kin, isPr]) (by show 4 * r.size + (1 + (4 * 1 + 0)) < 4 * (1 + r.size + 1); omega)
          rw [List.map_append] at f3
          rw [eGt, List.append_assoc, List.append_assoc]
          exact f3
        | pr a b =>
          (repeat ((conv => whnf); first | (refine And.intro (by first | assumption | exact True.intro | rfl | decide | exact Nat.le_of_ble_eq_true rfl | omega) ?_) | (rw [b0]) | (rw [b1]))); (try (conv => whnf))
          refine ⟨by rw [List.length_append, List.length_append]; show _ + 1 + 1 + 3 ≤ sizeLine; omega, ?_⟩
          have f3 := fin2 [.kd r, .tx [32, 62, 32], .tx [41], .kd (.pr a b), .tx [40]] (.val (Kd.d (.pr (.pr a b) r))) (fun x h => by
            simp only [List.mem_cons, List.not_mem_nil, or_false] at h
            rcases h with rfl | rfl | rfl | rfl | rfl
            · exact hx.2
            · exact Nat.le_refl 3
            · exact (by decide : 1 ≤ 3)
            · exact hx.1
            · exact (by decide : 1 ≤ 3)) (by simp [Ki.c, kin, isPr]) (by show 4 * r.size + (1 + (1 + (4 * (Kd.pr a b).size + (1 + 0)))) < 4 * ((Kd.pr a b).size + r.size + 1); omega)
          rw [List.map_append] at f3
          rw [eGt, eO, eC, List.append_assoc, List.append_assoc]
          exact f3
  · have : ws = [] := by
      have := of_decide_eq_false c
      rw [List.length_map] at this
      exact List.eq_nil_of_length_eq_zero (by omega)
    subst this
    walk_at "d"
    refine ⟨fs.map cS, rfl, ?_, ?_⟩
    · rw [eE]
      have := sum_le3 hf
      show _ + _ * (cS []).length ≤ _
      rw [cS_len]
      simp only [List.length_nil, Nat.mul_zero, Nat.add_zero]
      omega
    · rw [eE, join0]
      have e : fs.flatten = ktx k := by rw [← hc]; simp [cods]
      rw [e]
      exact q
end

end K10
set_option maxRecDepth 100000
set_option maxHeartbeats 2000000
namespace K10
open PySem PySem.Spec PyProof.Rows L2 Us Dl
def Kd.ltrs : Kd → Nat
  | .lt _ => 1
  | .pr l r => Kd.ltrs l + Kd.ltrs r
theorem ltrs_size : ∀ k : Kd, 2 * Kd.ltrs k = k.size + 1
  | .lt _ => rfl
  | .pr l r => by
    have h1 := ltrs_size l
    have h2 := ltrs_size r
    show 2 * (Kd.ltrs l + Kd.ltrs r) = l.size + r.size + 1 + 1
    omega
theorem ltrs_gk {k : Kd} (h : k.gk) : Kd.ltrs k ≤ 60 := by
  have := ltrs_size k
  have := h.2.2
  omega
def dKindThere : DSp := fun ds P _ => ∃ k : Kd, ds = [k.d] ∧ k.gk ∧ P (.bl true)
def ksum : List (Kd × Nat) → Nat
  | [] => 0
  | p :: r => p.1.size + ksum r
def klts : List (Kd × Nat) → Nat
  | [] => 0
  | p :: r => Kd.ltrs p.1 + klts r
theorem ksum_app : ∀ a b, ksum (a ++ b) = ksum a + ksum b
  | [], b => by show ksum b = 0 + _; omega
  | p :: a, b => by show p.1.size + ksum (a ++ b) = p.1.size + ksum a + _; rw [ksum_app a b]; omega
theorem klts_app : ∀ a b, klts (a ++ b) = klts a + klts b
  | [], b => by show klts b = 0 + _; omega
  | p :: a, b => by show Kd.ltrs p.1 + klts (a ++ b) = Kd.ltrs p.1 + klts a + _; rw [klts_app a b]; omega
theorem klts_len : ∀ a, a.length ≤ klts a
  | [] => Nat.le_refl _
  | p :: a => by
    have := klts_len a
    have h : 1 ≤ Kd.ltrs p.1 := by
      have go : ∀ k : Kd, 1 ≤ Kd.ltrs k := fun k => by
        induction k with
        | lt i => exact Nat.le_refl _
        | pr l r h1 h2 => show 1 ≤ Kd.ltrs l + Kd.ltrs r; omega
      exact go _
    show a.length + 1 ≤ Kd.ltrs p.1 + klts a
    omega
def kpD (p : Kd × Nat) : D := .tup [p.1.d, nD p.2]
section
variable {P : Program} {w : World} {K : PySem.W.Frag} {mg : Str → Option Value} {base : Heap}
theorem ok_kind_there (T : Txt K mg) (Dis_pair : DefOk P w K mg base CX0 1 "is_pair" p_is_pair (toSp K (pure1 (isOk []) fun d => .bl (isPair d)))) (Dis_within : DefOk P w K mg base CX0 2 "is_within" p_is_within (toSp K fun ds P _ => ∃ d lo hi, ds = [d, .int lo, .int hi] ∧ isOk [] d ∧ P (.bl (within d lo hi)))) :
    DefOk P w K mg base CX0 3 "is_kind_there" p_is_kind_there (toSp K dKindThere) := by
  refine T.d_is_kind_there.dl sc_is_kind_there (fun _ _ _ _ _ _ us hl => match us, hl with | [_], _ => rfl) (fun ds Q E ⟨k, h, _⟩ => by rw [h]; rfl) (fun fa cdv A outer s H E hr => ⟨_, _, (dss_cons (ds_setN (i := 1) sc_is_kind_there.nd rfl (Or.inl rfl) (dn_lst (da_cons (de_tup (da_cons (dv 0) (da_cons de_int da_nil))) da_nil)))
    (dss_cons (ds_set (i := 2) sc_is_kind_there.nd rfl (Or.inl rfl) de_int)
    (dss_cons (ds_while PassesOwn.never (dt_cmp op_gt l_bool (de_b1V (len_k rfl) l_len T.f_len (pv 1)) de_int)
      (dss_cons (ds_asg (de_pop (pv 1)) (dg_tup (n := 2) rfl (dgs_cons (dg_name (i := 3) (vs := [3, 4]) (by decide) sc_is_kind_there.nd rfl (Or.inl rfl)) (dgs_cons (dg_name (i := 4) (by decide) sc_is_kind_there.nd rfl (Or.inl rfl)) dgs_nil))))
      (dss_one (ds_if (DPW.pt (dw_and (dt_val (de_call0 Dis_pair (hr.mono (by first | decide | omega)) (da_cons (dv 3) da_nil))) (dw_and1 (dt_cmp op_lt l_bool (dv 4) (de_gI T.c_MOST_DEEP)))))
        (dss_cons (ds_expr (de_mut PySem.F.plainAttrs_list PySem.F.slot_list_append PySem.F.type_list_append mt_append l_app (pv 1) (de_tup (da_cons (de_ixV (pv 3) de_int) (da_cons (de_op op_add l_int (dv 4) de_int) da_nil)))))
        (dss_one (ds_expr (de_mut PySem.F.plainAttrs_list PySem.F.slot_list_append PySem.F.type_list_append mt_append l_app (pv 1) (de_tup (da_cons (de_ixV (pv 3) de_int) (da_cons (de_op op_add l_int (dv 4) de_int) da_nil)))))))
        (dss_one (ds_if (DPW.pt (dw_and (dt_val (de_call0 Dis_within (hr.mono (by first | decide | omega)) (da_cons (dv 3) (da_cons de_int (da_cons (de_gI T.c_LAST_LETTER) da_nil))))) (dw_and1 (dt_cmp op_lt l_bool (dv 2) (de_gI T.c_MOST_LETTERS)))))
          (dss_one (ds_aug (i := 2) sc_is_kind_there.nd rfl (Or.inl rfl) de_int ip_add))
          (dss_one (ds_ret de_bl))))))))
    (dss_one (ds_ret de_bl))))), fun ds Q E h => ?_⟩)
  obtain ⟨k, rfl, kg, q⟩ := h
  have z0 : (100000 : Nat) ≤ sizeLine := by decide
  have l4 := ltrs_gk kg
  (repeat ((conv => whnf); first | (refine And.intro (by first | assumption | exact True.intro | rfl | decide | exact Nat.le_of_ble_eq_true rfl | omega) ?_))); (try (conv => whnf))
  refine ⟨fun m s => ∃ (ps : List (Kd × Nat)) (n : Nat) (s3 s4 : Sl), s = [Sl.val k.d, Sl.own (ps.map kpD), Sl.val (.int n), s3, s4] ∧ (∀ p ∈ ps, p.1.good ∧ p.1.dep + p.2 ≤ 30) ∧ n + klts ps ≤ 60 ∧ m = ksum ps, ⟨_, [(k, 0)], 0, Sl.no, Sl.no, rfl, fun p hp => by rw [List.mem_singleton.mp hp]; exact ⟨kg.1, (by have := kg.2.1; show k.dep + 0 ≤ 30; omega)⟩, by show 0 + (Kd.ltrs k + 0) ≤ 60; omega, rfl⟩, ?_⟩
  rintro m s ⟨ps, n, s3, s4, rfl, hg, hn, rfl⟩
  walk_at "d"
  refine cnd_case (fun c => ?_) (fun c => ?_)
  · have hpos : 0 < (ps.map kpD).length := by have := of_decide_eq_true c; omega
    rw [List.length_map] at hpos
    obtain ⟨p0, x, rfl⟩ : ∃ p0 x, ps = p0 ++ [x] := ⟨ps.dropLast, ps.getLast (List.length_pos_iff.mp hpos), (List.dropLast_concat_getLast _).symm⟩
    obtain ⟨kx, nx⟩ := x
    have hx := hg (kx, nx) (List.mem_append_right _ (List.mem_singleton.mpr rfl))
    have hg0 : ∀ p ∈ p0, p.1.good ∧ p.1.dep + p.2 ≤ 30 := fun p hp => hg p (List.mem_append_left _ hp)
    have e1 : ((p0 ++ [(kx, nx)]).map kpD)[((p0 ++ [(kx, nx)]).map kpD).length - 1]? = some (kpD (kx, nx)) := by simp
    have e2 : ((p0 ++ [(kx, nx)]).map kpD).dropLast = p0.map kpD := by simp
    have hl0 := klts_len p0
    have hn2 : n + (klts p0 + Kd.ltrs kx) ≤ 60 := by rw [klts_app] at hn; exact hn
    have hks : ksum (p0 ++ [(kx, nx)]) = ksum p0 + kx.size := by rw [ksum_app]; rfl
    walk_at "d"
    rw [e1, e2]
    (repeat ((conv => whnf); first | (refine And.intro (by first | assumption | exact True.intro | rfl | decide | exact Nat.le_of_ble_eq_true rfl | omega) ?_))); (try (conv => whnf))
    refine ⟨_, rfl, (by cases kx <;> exact True.intro), ?_⟩
    cases kx with
    | lt i =>
      have hw : within (Kd.lt i).d 0 25 = true := by
        show (decide (0 ≤ i) && decide (i ≤ 25)) = true
        rw [decide_eq_true hx.1.1, decide_eq_true hx.1.2]; rfl
      walk_at "d"
      refine ⟨_, _, _, rfl, True.intro, ?_⟩
      rw [hw]
      have e : decide ((n : Int) < 60) = true := decide_eq_true (by have : Kd.ltrs (Kd.lt i) = 1 := rfl; omega)
      have hlt : Kd.ltrs (Kd.lt i) = 1 := rfl
      (repeat ((conv => whnf); first | (refine And.intro (by first | assumption | exact True.intro | rfl | decide | exact Nat.le_of_ble_eq_true rfl | omega) ?_) | (rw [e]))); (try (conv => whnf))
      refine ⟨_, ?_, p0, n + 1, _, _, rfl, hg0, by omega, rfl⟩
      rw [hks]; show ksum p0 < ksum p0 + 1; omega
    | pr l r =>
      have hd : max l.dep r.dep + 1 + nx ≤ 30 := hx.2
      have e : decide ((nx : Int) < 30) = true := decide_eq_true (by omega)
      have hlt : Kd.ltrs (Kd.pr l r) = Kd.ltrs l + Kd.ltrs r := rfl
      have hsz : (Kd.pr l r).size = l.size + r.size + 1 := rfl
      have hm : (p0.map kpD).length ≤ 60 := by rw [List.length_map]; omega
      walk_at "d"
      rw [e]
      walk_at "d"
      (repeat ((conv => whnf); first | (refine And.intro (by first | assumption | exact True.intro | rfl | decide | exact Nat.le_of_ble_eq_true rfl | omega) ?_))); (try (conv => whnf))
      refine ⟨by rw [List.length_append, List.length_singleton]; omega, ?_⟩
      refine ⟨_, ?_, p0 ++ [(r, nx + 1), (l, nx + 1)], n, Sl.val (Kd.pr l r).d, Sl.val (nD nx), ?_, fun p hp => ?_, ?_, rfl⟩
      · rw [hks, ksum_app, hsz]; show ksum p0 + (r.size + (l.size + 0)) < _; omega
      · show [_, Sl.own (List.map kpD p0 ++ [_] ++ [_]), _, _, _] = _
        rw [List.map_append, List.append_assoc]; rfl
      · rcases List.mem_append.mp hp with h | h
        · exact hg0 p h
        · rcases List.mem_cons.mp h with h | h
          · rw [h]; exact ⟨hx.1.2, by show r.dep + (nx + 1) ≤ 30; omega⟩
          · rw [List.mem_singleton.mp h]; exact ⟨hx.1.1, by show l.dep + (nx + 1) ≤ 30; omega⟩
      · rw [klts_app]; show n + (klts p0 + (Kd.ltrs r + (Kd.ltrs l + 0))) ≤ 60; omega
  · walk_at "d"
    exact q
end

end K10
set_option maxRecDepth 100000
set_option maxHeartbeats 2000000
namespace K10
open PySem PySem.Spec PyProof.Rows L2 Us Dl
theorem kin_len : ∀ k : Kd, (ktx k).length ≤ 6 * k.size ∧ (kin k).length ≤ 6 * k.size
  | .lt i => ⟨by show 1 ≤ 6 * 1; omega, by show 1 ≤ 6 * 1; omega⟩
  | .pr l r => by
    have h1 := kin_len l
    have h2 := kin_len r
    have e : (ktx (.pr l r)).length = (kin l).length + 3 + (ktx r).length := by rw [ktx_pr, List.length_append, List.length_append]; rfl
    have hs : (Kd.pr l r).size = l.size + r.size + 1 := rfl
    refine ⟨by omega, ?_⟩
    show (40 :: (ktx (.pr l r) ++ [41])).length ≤ _
    rw [List.length_cons, List.length_append]
    show _ + 1 + 1 ≤ _
    omega
theorem catC {a b : List Nat} : cS a ++ cS b = cS (a ++ b) := cS_app a b
def dKTextL (n : Nat) : DSp := fun ds P _ => ∃ k : Kd, k.dep < n ∧ ds = [k.d] ∧ k.good ∧ k.size ≤ 200 ∧ P (.str (cS (ktx k)))
def dCheckK : DSp := fun ds P _ => ∃ k : Kd, ds = [k.d] ∧ k.good ∧ k.size ≤ 200 ∧ P .non
def dProgThere : DSp := fun ds P _ => ∃ t : Dl.Tm, ds = [.tup t.ds] ∧ t.gud ∧ t.size ≤ 400 ∧ P (.bl true)
def dAnyKind (n : Nat) : DSp := fun ds P _ => ∃ m : Nat, m < n ∧ ds = [.hand, .int m] ∧ ∀ k : Kd, k.good → k.dep ≤ m → P k.d
section
variable {P : Program} {w : World} {K : PySem.W.Frag} {mg : Str → Option Value} {base : Heap}
theorem ktl_no (T : Txt K mg) : DefOk P w K mg base CX0 1 "_law_kind_text" p_law_kind_text (toSp K (dKTextL 0)) :=
  T.d_law_kind_text.ok sc_law_kind_text (fun _ _ _ _ _ _ us hl => match us, hl with | [_], _ => rfl) (fun vs H Q E ⟨a, B, ds, Pp, Xx, _, _, _, ⟨m, hm, _⟩, _⟩ => absurd hm (Nat.not_lt_zero _)) (fun fa cdv A outer s H vs Q E hr ⟨a, B, ds, Pp, Xx, _, _, _, ⟨m, hm, _⟩, _⟩ => absurd hm (Nat.not_lt_zero _))
theorem ktl_step {n : Nat} (T : Txt K mg) (Dlaw_kind_text : DefOk P w K mg base CX0 (n + 1) "_law_kind_text" p_law_kind_text (toSp K (dKTextL n))) : DefOk P w K mg base CX0 (n + 2) "_law_kind_text" p_law_kind_text (toSp K (dKTextL (n + 1))) := by
  refine T.d_law_kind_text.dl sc_law_kind_text (fun _ _ _ _ _ _ us hl => match us, hl with | [_], _ => rfl) (fun ds Q E ⟨k, _, e, _⟩ => by rw [e]; rfl) (fun fa cdv A outer s H E hr => ⟨_, _, (dss_cons (ds_if (dt_not (dt_val (de_isi (cs := []) (n := .tuple) (fun _ h => nomatch h) T.f_isinstance T.f_tuple (by decide +kernel) (dv 0))))
      (dss_one (ds_ret (de_ix de_str (dv 0))))
      dss_nil)
    (dss_cons (ds_set (i := 1) sc_law_kind_text.nd rfl (Or.inl rfl) (de_call0 Dlaw_kind_text (hr.mono (by first | decide | omega)) (da_cons (de_ixV (pv 0) de_int) da_nil)))
    (dss_cons (ds_if (dt_val (de_isi (cs := []) (n := .tuple) (fun _ h => nomatch h) T.f_isinstance T.f_tuple (by decide +kernel) (de_ixV (pv 0) de_int)))
      (dss_one (ds_set (i := 1) sc_law_kind_text.nd rfl (Or.inl rfl) (de_op op_add_str l_catS (de_op op_add_str l_catS de_str (dv 1)) de_str)))
      dss_nil)
    (dss_one (ds_ret (de_op op_add_str l_catS (de_op op_add_str l_catS (dv 1) de_str) (de_call0 Dlaw_kind_text (hr.mono (by first | decide | omega)) (da_cons (de_ixV (pv 0) de_int) da_nil)))))))), fun ds Q E h => ?_⟩)
  obtain ⟨k, hk, rfl, kg, ks, q⟩ := h
  have z0 : (100000 : Nat) ≤ sizeLine := by decide
  have eGt : Str.ofString " > " = cS [32, 62, 32] := by decide +kernel
  have eO : Str.ofString "(" = cS [40] := by decide +kernel
  have eC : Str.ofString ")" = cS [41] := by decide +kernel
  cases k with
  | lt i =>
    (repeat ((conv => whnf); first | (refine And.intro (by first | assumption | exact True.intro | rfl | decide | exact Nat.le_of_ble_eq_true rfl | omega) ?_))); (try (conv => whnf))
    rw [small_at kg.1 kg.2]
    (repeat ((conv => whnf); first | (refine And.intro (by first | assumption | exact True.intro | rfl | decide | exact Nat.le_of_ble_eq_true rfl | omega) ?_))); (try (conv => whnf))
    exact q
  | pr l r =>
    have b0 : atI [l.d, r.d] 0 = some l.d := by
      have := atI_nat (xs := [l.d, r.d]) (j := 0) rfl
      exact this
    have b1 : atI [l.d, r.d] 1 = some r.d := by
      have := atI_nat (xs := [l.d, r.d]) (j := 1) rfl
      exact this
    have hs : (Kd.pr l r).size = l.size + r.size + 1 := rfl
    have hd : (Kd.pr l r).dep = max l.dep r.dep + 1 := rfl
    have ll := kin_len l
    have lr := kin_len r
    (repeat ((conv => whnf); first | (refine And.intro (by first | assumption | exact True.intro | rfl | decide | exact Nat.le_of_ble_eq_true rfl | omega) ?_) | (rw [b0]) | (rw [b1]))); (try (conv => whnf))
    refine ⟨l, by omega, rfl, kg.1, by omega, ?_⟩
    rw [ktx_pr] at q
    cases l with
    | lt i =>
      (repeat ((conv => whnf); first | (refine And.intro (by first | assumption | exact True.intro | rfl | decide | exact Nat.le_of_ble_eq_true rfl | omega) ?_) | (rw [b0]) | (rw [b1]))); (try (conv => whnf))
      refine ⟨_, by omega, rfl, kg.2, by omega, ?_⟩
      rw [eGt, cS_app]
      refine ⟨by rw [cS_len, cS_len, List.length_append]; show _ + 3 + _ ≤ _; omega, ?_⟩
      rw [cS_app]
      exact q
    | pr a b =>
      (repeat ((conv => whnf); first | (refine And.intro (by first | assumption | exact True.intro | rfl | decide | exact Nat.le_of_ble_eq_true rfl | omega) ?_) | (rw [b0]) | (rw [b1]))); (try (conv => whnf))
      rw [eO, eC, eGt, cS_app]
      refine ⟨by rw [cS_len, cS_len]; show 1 + _ ≤ _; omega, ?_⟩
      walk_at "d"
      refine ⟨by rw [cS_len, cS_len, List.length_append]; show 1 + _ + 1 ≤ _; omega, ?_⟩
      rw [cS_app]
      walk_at "d"
      refine ⟨by rw [cS_len, cS_len, List.length_append, List.length_append]; show 1 + _ + 1 + 3 ≤ _; omega, ?_⟩
      rw [cS_app]
      (repeat ((conv => whnf); first | (refine And.intro (by first | assumption | exact True.intro | rfl | decide | exact Nat.le_of_ble_eq_true rfl | omega) ?_) | (rw [b1]))); (try (conv => whnf))
      refine ⟨_, by omega, rfl, kg.2, by omega, ?_⟩
      refine ⟨by rw [cS_len, cS_len, List.length_append, List.length_append, List.length_append]; show 1 + _ + 1 + 3 + _ ≤ _; omega, ?_⟩
      rw [cS_app]
      have e : [40] ++ ktx (.pr a b) ++ [41] ++ [32, 62, 32] ++ ktx r = kin (.pr a b) ++ [32, 62, 32] ++ ktx r := by
        show _ = (40 :: (ktx (.pr a b) ++ [41])) ++ [32, 62, 32] ++ ktx r
        simp
      rw [e]
      exact q
theorem ok_law_kind_text (T : Txt K mg) : ∀ n, DefOk P w K mg base CX0 (n + 1) "_law_kind_text" p_law_kind_text (toSp K (dKTextL n))
  | 0 => ktl_no T
  | n + 1 => ktl_step T (ok_law_kind_text T n)
theorem any_no (T : Txt K mg) : DefOk P w K mg base CX0 1 "_law_any_kind" p_law_any_kind (toSp K (dAnyKind 0)) :=
  T.d_law_any_kind.ok sc_law_any_kind (fun _ _ _ _ _ _ us hl => match us, hl with | [_, _], _ => rfl) (fun vs H Q E ⟨a, B, ds, Pp, Xx, _, _, _, ⟨m, hm, _⟩, _⟩ => absurd hm (Nat.not_lt_zero _)) (fun fa cdv A outer s H vs Q E hr ⟨a, B, ds, Pp, Xx, _, _, _, ⟨m, hm, _⟩, _⟩ => absurd hm (Nat.not_lt_zero _))
theorem any_step {n : Nat} (T : Txt K mg) (Dlaw_draw : DefOk P w K mg base CX0 1 "_law_draw" p_law_draw (toSp K dDraw)) (Dlaw_any_kind : DefOk P w K mg base CX0 (n + 1) "_law_any_kind" p_law_any_kind (toSp K (dAnyKind n))) : DefOk P w K mg base CX0 (n + 2) "_law_any_kind" p_law_any_kind (toSp K (dAnyKind (n + 1))) := by
  refine T.d_law_any_kind.dl sc_law_any_kind (fun _ _ _ _ _ _ us hl => match us, hl with | [_, _], _ => rfl) (fun ds Q E ⟨m, _, e, _⟩ => by rw [e]; rfl) (fun fa cdv A outer s H E hr => ⟨_, _, (dss_cons (ds_if (DPW.pt (dw_or (dt_cmp op_eq l_eqS (dv 1) de_int) (dw_or1 (dt_cmp op_eq l_eqS (de_call0 Dlaw_draw (hr.mono (by first | decide | omega)) (da_cons (dv 0) (da_cons de_int da_nil))) de_int))))
      (dss_one (ds_ret (de_call0 Dlaw_draw (hr.mono (by first | decide | omega)) (da_cons (dv 0) (da_cons de_int da_nil)))))
      dss_nil)
    (dss_one (ds_ret (de_tup (da_cons (de_call0 Dlaw_any_kind (hr.mono (by first | decide | omega)) (da_cons (dv 0) (da_cons (de_op op_sub l_int (dv 1) de_int) da_nil))) (da_cons (de_call0 Dlaw_any_kind (hr.mono (by first | decide | omega)) (da_cons (dv 0) (da_cons (de_op op_sub l_int (dv 1) de_int) da_nil))) da_nil)))))), fun ds Q E h => ?_⟩)
  obtain ⟨m, hm, rfl, k⟩ := h
  have leaf : ∀ i : Int, 0 ≤ i → i < 26 → Q (.int i) := fun i h0 h1 => k (.lt i) ⟨h0, by omega⟩ (Nat.zero_le _)
  walk_at "d"
  cases hc : decide ((m : Int) = 0) with
  | true =>
    walk_at "d"
    exact ⟨26, rfl, by decide, by decide, leaf⟩
  | false =>
    have hm0 : m ≠ 0 := fun z => by rw [z] at hc; cases hc
    walk_at "d"
    refine ⟨4, rfl, by decide, by decide, fun d d0 d1 => ?_⟩
    walk_at "d"
    refine cnd_case (fun c => ?_) (fun c => ?_)
    · walk_at "d"
      exact ⟨26, rfl, by decide, by decide, leaf⟩
    · walk_at "d"
      have e1 : (m : Int) - 1 = ((m - 1 : Nat) : Int) := by omega
      refine ⟨m - 1, by omega, by show [D.hand, D.int ((m : Int) - 1)] = _; rw [e1], fun k1 g1 p1 => ?_⟩
      walk_at "d"
      refine ⟨m - 1, by omega, by show [D.hand, D.int ((m : Int) - 1)] = _; rw [e1], fun k2 g2 p2 => ?_⟩
      walk_at "d"
      refine ⟨show 2 ≤ sizeLine by decide, ?_⟩
      exact k (.pr k1 k2) ⟨g1, g2⟩ (by show max k1.dep k2.dep + 1 ≤ m; omega)
theorem ok_any_kind (T : Txt K mg) (Dlaw_draw : DefOk P w K mg base CX0 1 "_law_draw" p_law_draw (toSp K dDraw)) : ∀ n, DefOk P w K mg base CX0 (n + 1) "_law_any_kind" p_law_any_kind (toSp K (dAnyKind n))
  | 0 => any_no T
  | n + 1 => any_step T Dlaw_draw (ok_any_kind T Dlaw_draw n)
theorem ok_check_kind (T : Txt K mg) (Dis_kind_of_any_size : DefOk P w K mg base CX0 3 "is_kind_of_any_size" p_is_kind_of_any_size (toSp K dKindAny)) : DefOk P w K mg base (L2.CX P w) 4 "check_kind" p_check_kind (toSp K dCheckK) := by
  refine T.d_check_kind.dlX sc_check_kind (fun _ _ _ _ _ _ us hl => match us, hl with | [_], _ => rfl) (fun ds Q E ⟨k, h, _⟩ => by rw [h]; rfl) (fun fa cdv A outer s H E hr => ⟨_, _, (dss_one (ds_if (dt_not (dt_val (de_call0 Dis_kind_of_any_size (hr.mono (by first | decide | omega)) (da_cons (dv 0) da_nil))))
      (dss_one (ds_raise0 rfl rfl (takes_of rfl rfl rfl rfl) T.x_NoKind))
      dss_nil)), fun ds Q E h => ?_⟩)
  obtain ⟨k, rfl, kg, ks, q⟩ := h
  walk_at "d"
  refine ⟨k, rfl, kg, by omega, ?_⟩
  walk_at "d"
  exact q
theorem ok_kind_text (T : Txt K mg) (Dcheck_kind : DefOk P w K mg base (L2.CX P w) 4 "check_kind" p_check_kind (toSp K dCheckK)) (Dkind_text_of : DefOk P w K mg base CX0 1 "kind_text_of" p_kind_text_of (toSp K dKText)) : DefOk P w K mg base (L2.CX P w) 5 "kind_text" p_kind_text (toSp K dKText) := by
  refine T.d_kind_text.dlX sc_kind_text (fun _ _ _ _ _ _ us hl => match us, hl with | [_], _ => rfl) (fun ds Q E ⟨k, h, _⟩ => by rw [h]; rfl) (fun fa cdv A outer s H E hr => ⟨_, _, (dss_cons (ds_expr (de_callX Dcheck_kind (hr.mono (by first | decide | omega)) (takes_of rfl rfl rfl rfl) (da_cons (dv 0) da_nil)))
    (dss_one (ds_ret (de_call0 Dkind_text_of (hr.mono (by first | decide | omega)) (da_cons (dv 0) da_nil))))), fun ds Q E h => ?_⟩)
  obtain ⟨k, rfl, kg, ks, q⟩ := h
  walk_at "d"
  refine ⟨k, rfl, kg, ks, ?_⟩
  walk_at "d"
  exact ⟨k, rfl, kg, ks, q⟩
theorem ok_program_there (T : Txt K mg) (Dis_word : DefOk P w K mg base CX0 4 "is_word" p_is_word (toSp K dIsWord)) (Dis_whole : DefOk P w K mg base CX0 2 "is_whole" p_is_whole (toSp K dWhole)) (Dis_take : DefOk P w K mg base CX0 1 "is_take" p_is_take (spTake K)) (Dis_kind_there : DefOk P w K mg base CX0 3 "is_kind_there" p_is_kind_there (toSp K dKindThere)) : DefOk P w K mg base CX0 5 "is_program_there" p_is_program_there (toSp K dProgThere) := by
  refine T.d_is_program_there.dl sc_is_program_there (fun _ _ _ _ _ _ us hl => match us, hl with | [_], _ => rfl) (fun ds Q E ⟨t, h, _⟩ => by rw [h]; rfl) (fun fa cdv A outer s H E hr => ⟨_, _, (dss_cons (ds_if (DPW.pt (dw_or (dt_not (dt_val (de_isi (cs := []) (n := .tuple) (fun _ h => nomatch h) T.f_isinstance T.f_tuple (by decide +kernel) (dv 0)))) (dw_or1 (dt_not (dt_chain op_le l_bool op_le l_bool de_int (de_b1V (len_k rfl) l_len T.f_len (pv 0)) (de_gI T.c_MOST_WORDS))))))
      (dss_one (ds_ret de_bl))
      dss_nil)
    (dss_cons (ds_if (DPW.pt (dw_or (dt_not (dt_val (de_b1 (all_k rfl rfl) l_all T.f_all (de_n (dn_lcm (own := [("word", 1)]) rfl sc_is_program_there.nd (di_tup (dv 0)) (blkOk_by (own := [("word", 1)]) (N := n_is_program_there) (sc := defScope s_is_program_there) (by decide +kernel)) (fun _ _ _ _ _ => (dg_name (i := 1) (by decide) sc_is_program_there.nd rfl (Or.inl rfl))) (fun _ _ _ _ _ => dts_nil) (fun _ _ _ _ _ => (de_call0 Dis_word (hr.mono (by first | decide | omega)) (da_cons (dv 1) da_nil)))))))) (dw_or1 (dt_not (dt_val (de_call0 Dis_whole (hr.mono (by first | decide | omega)) (da_cons (dv 0) da_nil)))))))
      (dss_one (ds_ret de_bl))
      dss_nil)
    (dss_one (ds_ret (de_b1 (all_k rfl rfl) l_all T.f_all (de_n (dn_lcm (own := [("word", 1)]) rfl sc_is_program_there.nd (di_tup (dv 0)) (blkOk_by (own := [("word", 1)]) (N := n_is_program_there) (sc := defScope s_is_program_there) (by decide +kernel)) (fun _ _ _ _ _ => (dg_name (i := 1) (by decide) sc_is_program_there.nd rfl (Or.inl rfl))) (fun _ _ _ _ _ => (dts_one (dt_val (de_call0 Dis_take (hr.mono (by first | decide | omega)) (da_cons (dv 1) da_nil))))) (fun _ _ _ _ _ => (de_call0 Dis_kind_there (hr.mono (by first | decide | omega)) (da_cons (de_ixV (pv 1) de_int) da_nil)))))))))), fun ds Q E h => ?_⟩)
  obtain ⟨t, rfl, tg, ht, q⟩ := h
  have z0 : (1000 : Nat) ≤ sizeLine := by decide
  have hp := t.size_pos
  have fg := flat_gud tg
  have dl := t.ds_len
  (repeat ((conv => whnf); first | (refine And.intro (by first | assumption | exact True.intro | rfl | decide | exact Nat.le_of_ble_eq_true rfl | omega) ?_))); (try (conv => whnf))
  rw [decide_eq_true (show (1 : Int) ≤ (t.ds.length : Int) by omega)]
  walk_at "d"
  rw [decide_eq_true (show (t.ds.length : Int) ≤ 400 by omega)]
  walk_at "d"
  refine lc_ind Wd.d (fun rest acc s => ∃ (n : Nat), acc = (List.replicate n true).map D.bl ∧ s = [Sl.val (.tup t.ds), Sl.no] ∧ (∀ v ∈ rest, v.gud) ∧ n + rest.length ≤ 1000) ?_ ?_ t.flat [] _ ⟨0, rfl, rfl, fg, by rw [t.flat_len]; omega⟩
  rotate_left
  · rintro v rest acc s ⟨n, rfl, rfl, hm, hn⟩ ih
    rw [List.length_cons] at hn
    walk_at "r"
    walk_at "d"
    refine ⟨v, rfl, hm v (List.mem_cons_self ..), ?_⟩
    walk_at "d"
    refine ⟨by rw [List.length_map, List.length_replicate]; omega, ?_⟩
    refine ih _ _ ⟨n + 1, ?_, rfl, fun c h => hm c (List.mem_cons_of_mem _ h), by omega⟩
    rw [List.replicate_succ', List.map_append]; rfl
  rintro acc s ⟨n, rfl, rfl, _, _⟩
  walk_at "d"
  refine ⟨_, rfl, ?_⟩
  rw [show (List.replicate n true).all id = true by rw [List.all_eq_true]; intro b hb; exact (List.mem_replicate.mp hb).2]
  walk_at "d"
  refine ⟨t, rfl, tg, by omega, ?_⟩
  walk_at "d"
  refine lc_ind Wd.d (fun rest acc s => ∃ (n : Nat), acc = (List.replicate n true).map D.bl ∧ s = [Sl.val (.tup t.ds), Sl.no] ∧ (∀ v ∈ rest, v.gud) ∧ n + rest.length ≤ 1000) ?_ ?_ t.flat [] _ ⟨0, rfl, rfl, fg, by rw [t.flat_len]; omega⟩
  · rintro acc s ⟨n, rfl, rfl, _, _⟩
    walk_at "d"
    refine ⟨_, rfl, ?_⟩
    rw [show (List.replicate n true).all id = true by rw [List.all_eq_true]; intro b hb; exact (List.mem_replicate.mp hb).2]
    exact q
  · rintro v rest acc s ⟨n, rfl, rfl, hm, hn⟩ ih
    rw [List.length_cons] at hn
    have vg := hm v (List.mem_cons_self ..)
    have hm' : ∀ c ∈ rest, c.gud := fun c h => hm c (List.mem_cons_of_mem _ h)
    walk_at "r"
    walk_at "d"
    refine ⟨_, rfl, (by cases v <;> exact True.intro), ?_⟩
    cases v with
    | use => walk_at "d"; exact ih _ _ ⟨n, rfl, rfl, hm', by omega⟩
    | nm z => walk_at "d"; exact ih _ _ ⟨n, rfl, rfl, hm', by omega⟩
    | tk z k =>
      (repeat ((conv => whnf); first | (refine And.intro (by first | assumption | exact True.intro | rfl | decide | exact Nat.le_of_ble_eq_true rfl | omega) ?_))); (try (conv => whnf))
      refine ⟨k, rfl, vg.2, ?_⟩
      walk_at "d"
      refine ⟨by rw [List.length_map, List.length_replicate]; omega, ?_⟩
      exact ih _ _ ⟨n + 1, by rw [List.replicate_succ', List.map_append]; rfl, rfl, hm', by omega⟩
end

end K10
set_option maxRecDepth 100000
set_option maxHeartbeats 2000000
namespace K10
open PySem PySem.Spec PyProof.Rows L2 Us Dl
/-! ### the text of a program -/
def ptx : Dl.Tm → List Nat
  | .nm z => z.cps.toList
  | .ap f x => 40 :: (ptx f ++ 32 :: (ptx x ++ [41]))
  | .la z k t => 91 :: (z.cps.toList ++ 58 :: (ktx k ++ [93, 32])) ++ ptx t
def clo : List Bool → List Nat × List Bool
  | [] => ([], [])
  | true :: r => (41 :: (clo r).1, (clo r).2)
  | false :: r => ([32], true :: r)
def stpT (s : List Nat × List Bool) : Wd → List Nat × List Bool
  | .use => (s.1 ++ [40], false :: s.2)
  | .tk z k => (s.1 ++ 91 :: (z.cps.toList ++ 58 :: (ktx k ++ [93, 32])), s.2)
  | .nm z => (s.1 ++ z.cps.toList ++ (clo s.2).1, (clo s.2).2)
theorem runT : ∀ (t : Dl.Tm) (rest : List Wd) (F : List Nat) (W : List Bool), (t.flat ++ rest).foldl stpT (F, W) = rest.foldl stpT (F ++ ptx t ++ (clo W).1, (clo W).2)
  | .nm z, rest, F, W => rfl
  | .ap f x, rest, F, W => by
    show ((f.flat ++ x.flat) ++ rest).foldl stpT (F ++ [40], false :: W) = _
    rw [List.append_assoc, runT f, runT x]
    simp [clo, ptx]
  | .la z k t, rest, F, W => by
    show (t.flat ++ rest).foldl stpT (F ++ 91 :: (z.cps.toList ++ 58 :: (ktx k ++ [93, 32])), W) = _
    rw [runT t]
    simp [ptx]
def chD : Bool → D
  | true => .str (cS [41])
  | false => .str (cS [32])
theorem eqv_us : eqv Wd.use.d (.str "@") = true := eqv_use .use
theorem eqv_nm {z : Str} (h : z ≠ "@") : eqv (Wd.nm z).d (.str "@") = false := (eqv_use (.nm z)).trans (decide_eq_false h)
theorem eqv_tk (z : Str) (k : Kd) : eqv (Wd.tk z k).d (.str "@") = false := eqv_use (.tk z k)
theorem at_last (l : List D) (y : D) : atI (l ++ [y]) (-1) = some y := by
  unfold atI ixN
  rw [List.length_append, List.length_singleton, if_neg (by omega), if_pos (by omega), Option.bind_some, show (-1 + ((l.length + 1 : Nat) : Int)).toNat = l.length by omega]
  simp
def dPText : DSp := fun ds P _ => ∃ t : Dl.Tm, ds = [.tup t.ds] ∧ t.gud ∧ t.size ≤ 400 ∧ P (.str (cS (ptx t)))
theorem sum_leN {N : Nat} : ∀ {fs : List (List Nat)}, (∀ f ∈ fs, f.length ≤ N) → ((fs.map cS).map (·.length)).sum ≤ N * fs.length
  | [], _ => Nat.zero_le _
  | f :: fs, h => by
    have := sum_leN (fs := fs) fun x hx => h x (List.mem_cons_of_mem _ hx)
    have h1 := h f (List.mem_cons_self ..)
    rw [List.map_cons, List.map_cons, List.sum_cons, List.length_cons, cS_len, Nat.mul_succ]
    omega
section
variable {P : Program} {w : World} {K : PySem.W.Frag} {mg : Str → Option Value} {base : Heap}
theorem ok_program_text_of (T : Txt K mg) (Dis_take : DefOk P w K mg base CX0 1 "is_take" p_is_take (spTake K)) (Dkind_text_of : DefOk P w K mg base CX0 1 "kind_text_of" p_kind_text_of (toSp K dKText)) : DefOk P w K mg base CX0 2 "program_text_of" p_program_text_of (toSp K dPText) := by
  refine T.d_program_text_of.dl sc_program_text_of (fun _ _ _ _ _ _ us hl => match us, hl with | [_], _ => rfl) (fun ds Q E ⟨t, h, _⟩ => by rw [h]; rfl) (fun fa cdv A outer s H E hr => ⟨_, _, (dss_cons (ds_setN (i := 1) sc_program_text_of.nd rfl (Or.inl rfl) (dn_lst da_nil))
    (dss_cons (ds_setN (i := 2) sc_program_text_of.nd rfl (Or.inl rfl) (dn_lst da_nil))
    (dss_cons (ds_for (vs := [3]) PassesOwn.never rfl (di_tup (dv 0)) (dg_name (i := 3) (by decide) sc_program_text_of.nd rfl (Or.inl rfl))
      (dss_one (ds_if (dt_cmp (op_eqD hr.units) l_eqD (dv 3) (de_gS T.c_USE))
        (dss_cons (ds_expr (de_mut PySem.F.plainAttrs_list PySem.F.slot_list_append PySem.F.type_list_append mt_append l_app (pv 1) de_str))
        (dss_one (ds_expr (de_mut PySem.F.plainAttrs_list PySem.F.slot_list_append PySem.F.type_list_append mt_append l_app (pv 2) de_str))))
        (dss_one (ds_if (dt_val (de_call0 Dis_take (hr.mono (by first | decide | omega)) (da_cons (dv 3) da_nil)))
          (dss_one (ds_expr (de_mut PySem.F.plainAttrs_list PySem.F.slot_list_append PySem.F.type_list_append mt_append l_app (pv 1) (de_op op_add_str l_catS (de_op op_add_str l_catS (de_op op_add_str l_catS (de_op op_add_str l_catS de_str (de_ixV (pv 3) de_int)) de_str) (de_call0 Dkind_text_of (hr.mono (by first | decide | omega)) (da_cons (de_ixV (pv 3) de_int) da_nil))) de_str))))
          (dss_cons (ds_expr (de_mut PySem.F.plainAttrs_list PySem.F.slot_list_append PySem.F.type_list_append mt_append l_app (pv 1) (dv 3)))
          (dss_cons (ds_while PassesOwn.never (DPW.pt (dw_and (dt_cmp op_gt l_bool (de_b1V (len_k rfl) l_len T.f_len (pv 2)) de_int) (dw_and1 (dt_cmp op_eq l_eqS (de_ixV (pv 2) (de_un un_neg l_neg de_int)) de_str))))
            (dss_one (ds_expr (de_mut PySem.F.plainAttrs_list PySem.F.slot_list_append PySem.F.type_list_append mt_append l_app (pv 1) (de_pop (pv 2))))))
          (dss_one (ds_if (dt_cmp op_gt l_bool (de_b1V (len_k rfl) l_len T.f_len (pv 2)) de_int)
            (dss_cons (ds_expr (de_mut PySem.F.plainAttrs_list PySem.F.slot_list_append PySem.F.type_list_append mt_append l_app (pv 1) (de_pop (pv 2))))
            (dss_one (ds_expr (de_mut PySem.F.plainAttrs_list PySem.F.slot_list_append PySem.F.type_list_append mt_append l_app (pv 2) de_str))))
            dss_nil)))))))))
    (dss_one (ds_ret (de_join1 de_str (dv 1))))))), fun ds Q E h => ?_⟩)
  obtain ⟨t, rfl, tg, ht, q⟩ := h
  have z0 : (100000 : Nat) ≤ sizeLine := by decide
  have fg := flat_gud tg
  have eO : Str.ofString "(" = cS [40] := by decide +kernel
  have eC : Str.ofString ")" = cS [41] := by decide +kernel
  have eS : Str.ofString " " = cS [32] := by decide +kernel
  have eB : Str.ofString "[" = cS [91] := by decide +kernel
  have eN : Str.ofString ":" = cS [58] := by decide +kernel
  have eD : Str.ofString "] " = cS [93, 32] := by decide +kernel
  have eE : Str.ofString "" = cS [] := by decide +kernel
  have hrun : t.flat.foldl stpT ([], []) = (ptx t, []) := by
    have := runT t [] [] []
    rw [List.append_nil] at this
    rw [this]
    simp [clo]
  (repeat ((conv => whnf); first | (refine And.intro (by first | assumption | exact True.intro | rfl | decide | exact Nat.le_of_ble_eq_true rfl | omega) ?_))); (try (conv => whnf))
  refine for_ind Wd.d (fun rest s => ∃ (fs : List (List Nat)) (W : List Bool) (s3 : Sl), s = [Sl.val (.tup t.ds), .own ((fs.map cS).map D.str), .own (W.reverse.map chD), s3] ∧ rest.foldl stpT (fs.flatten, W) = (ptx t, []) ∧ (∀ v ∈ rest, v.gud) ∧ fs.length + W.length + 2 * rest.length ≤ 800 ∧ ∀ f ∈ fs, f.length ≤ 740) ?_ ?_ t.flat _ ⟨[], [], .no, rfl, hrun, fg, by rw [t.flat_len]; show 0 + 0 + 2 * t.size ≤ 800; omega, fun f h => (nomatch h)⟩
  · rintro s ⟨fs, W, s3, rfl, hr, _, hl, hf⟩
    have e : fs.flatten = ptx t := congrArg Prod.fst hr
    walk_at "d"
    refine ⟨fs.map cS, rfl, ?_, ?_⟩
    · rw [eE]
      have := sum_leN hf
      show _ + _ * (cS []).length ≤ _
      rw [cS_len]
      simp only [List.length_nil, Nat.mul_zero, Nat.add_zero]
      simp only [List.length_nil, Nat.mul_zero, Nat.add_zero] at hl
      omega
    · rw [eE, join0, e]
      exact q
  · rintro v rest s ⟨fs, W, s3, rfl, hr, hg, hl, hf⟩ ih
    rw [List.length_cons] at hl
    have vg := hg v (List.mem_cons_self ..)
    have hg' : ∀ c ∈ rest, c.gud := fun c h => hg c (List.mem_cons_of_mem _ h)
    have flen : ((fs.map cS).map D.str).length < sizeLine := by rw [List.length_map, List.length_map]; omega
    walk_at "r"
    walk_at "d"
    refine ⟨⟨ok_wd v vg, ok_str strOk_use⟩, ?_⟩
    have wlen : (W.reverse.map chD).length < sizeLine := by rw [List.length_map, List.length_reverse]; omega
    cases v with
    | use =>
      rw [eqv_us]
      (repeat ((conv => whnf); first | (refine And.intro (by first | assumption | exact True.intro | rfl | decide | exact Nat.le_of_ble_eq_true rfl | omega) ?_))); (try (conv => whnf))
      exact ih _ ⟨fs ++ [[40]], false :: W, _, by rw [eO, eS, List.reverse_cons, List.map_append, List.map_append, List.map_append]; rfl, by rw [← hr, List.flatten_append]; simp [stpT], hg', by rw [List.length_append, List.length_cons]; show fs.length + 1 + (W.length + 1) + _ ≤ _; omega, fun f h => by
        rcases List.mem_append.mp h with h | h
        · exact hf f h
        · rw [List.mem_singleton.mp h]; exact Nat.le_of_ble_eq_true rfl⟩
    | tk z k =>
      rw [eqv_tk]
      obtain ⟨zn, kg⟩ := vg
      obtain ⟨z1, z8, _⟩ := nm_facts zn
      have kl := (kin_len k).1
      have ks := kg.2.2
      have b0 : atI [D.str z, k.d] 0 = some (.str z) := by
        have := atI_nat (xs := [D.str z, k.d]) (j := 0) rfl
        exact this
      have b1 : atI [D.str z, k.d] 1 = some k.d := by
        have := atI_nat (xs := [D.str z, k.d]) (j := 1) rfl
        exact this
      have ez : z = cS z.cps.toList := (cS_cps z).symm
      generalize hzc : z.cps.toList = zc at *
      have zl : zc.length ≤ 8 := by rw [← hzc]; have : z.length = z.cps.size := rfl; rw [Array.length_toList]; omega
      subst ez
      walk_at "d"
      refine ⟨_, rfl, True.intro, ?_⟩
      (repeat ((conv => whnf); first | (refine And.intro (by first | assumption | exact True.intro | rfl | decide | exact Nat.le_of_ble_eq_true rfl | omega) ?_) | (rw [b0]) | (rw [b1]))); (try (conv => whnf))
      rw [eB, eN, eD, cS_app]
      refine ⟨by rw [cS_len, cS_len]; show 1 + _ ≤ _; omega, ?_⟩
      walk_at "d"
      refine ⟨by rw [cS_len, cS_len, List.length_append]; show 1 + _ + 1 ≤ _; omega, ?_⟩
      rw [cS_app]
      (repeat ((conv => whnf); first | (refine And.intro (by first | assumption | exact True.intro | rfl | decide | exact Nat.le_of_ble_eq_true rfl | omega) ?_) | (rw [b0]) | (rw [b1]))); (try (conv => whnf))
      refine ⟨k, rfl, kg.1, by omega, ?_⟩
      walk_at "d"
      refine ⟨by rw [cS_len, cS_len, List.length_append, List.length_append]; show 1 + _ + 1 + _ ≤ _; omega, ?_⟩
      rw [cS_app]
      walk_at "d"
      refine ⟨by rw [cS_len, cS_len, List.length_append, List.length_append, List.length_append]; show 1 + _ + 1 + _ + 2 ≤ _; omega, ?_⟩
      rw [cS_app]
      walk_at "d"
      refine ⟨flen, ?_⟩
      exact ih _ ⟨fs ++ [[91] ++ zc ++ [58] ++ ktx k ++ [93, 32]], W, _, by rw [List.map_append, List.map_append]; rfl, by rw [← hr, List.flatten_append]; simp [stpT, hzc], hg', by rw [List.length_append]; show fs.length + 1 + _ + _ ≤ _; omega, fun f h => by
        rcases List.mem_append.mp h with h | h
        · exact hf f h
        · rw [List.mem_singleton.mp h]; simp only [List.length_append, List.length_singleton, List.length_cons, List.length_nil]; omega⟩
    | nm z =>
      have hne : z ≠ "@" := nm_use vg
      rw [eqv_nm hne]
      obtain ⟨z1, z8, _⟩ := nm_facts vg
      have ez : z = cS z.cps.toList := (cS_cps z).symm
      have zl : z.cps.toList.length ≤ 8 := by have : z.length = z.cps.size := rfl; rw [Array.length_toList]; omega
      walk_at "d"
      refine ⟨_, rfl, True.intro, ?_⟩
      (repeat ((conv => whnf); first | (refine And.intro (by first | assumption | exact True.intro | rfl | decide | exact Nat.le_of_ble_eq_true rfl | omega) ?_))); (try (conv => whnf))
      obtain ⟨A, hA⟩ : ∃ A, A = fs.flatten ++ z.cps.toList ++ (clo W).1 := ⟨_, rfl⟩
      obtain ⟨S', hS'⟩ : ∃ S', S' = (clo W).2 := ⟨_, rfl⟩
      have hr2 : rest.foldl stpT (A, S') = (ptx t, []) := by rw [← hr, hA, hS']; rfl
      refine ⟨fun m s => ∃ (fs' : List (List Nat)) (W' : List Bool), s = [Sl.val (.tup t.ds), .own ((fs'.map cS).map D.str), .own (W'.reverse.map chD), .val (.str z)] ∧ fs'.flatten ++ (clo W').1 = A ∧ (clo W').2 = S' ∧ fs'.length + W'.length + 2 * rest.length ≤ 799 ∧ (∀ f ∈ fs', f.length ≤ 740) ∧ m = W'.length, ⟨_, fs ++ [z.cps.toList], W, by rw [List.map_append, List.map_append]; show _ = [_, Sl.own (_ ++ [D.str (cS z.cps.toList)]), _, _]; rw [cS_cps]; rfl, by rw [hA, List.flatten_append]; simp, hS'.symm, by rw [List.length_append]; show fs.length + 1 + _ + _ ≤ _; omega, fun f h => by
        rcases List.mem_append.mp h with h | h
        · exact hf f h
        · rw [List.mem_singleton.mp h]; omega, rfl⟩, ?_⟩
      rintro m s ⟨fs', W', rfl, h1, h2, h3, h4, rfl⟩
      have flen' : ((fs'.map cS).map D.str).length < sizeLine := by rw [List.length_map, List.length_map]; omega
      have wlen' : (W'.reverse.map chD).length < sizeLine := by rw [List.length_map, List.length_reverse]; omega
      cases W' with
      | nil =>
        walk_at "d"
        have hA2 : fs'.flatten = A := by rw [← h1]; simp [clo]
        have hS2 : S' = [] := by rw [← h2]; rfl
        exact ih _ ⟨fs', [], .val (.str z), rfl, by rw [hA2]; rw [hS2] at hr2; exact hr2, hg', by simp only [List.length_nil] at h3 ⊢; omega, h4⟩
      | cons b r =>
        have ew : (b :: r).reverse.map chD = r.reverse.map chD ++ [chD b] := by rw [List.reverse_cons, List.map_append]; rfl
        rw [List.length_cons] at h3
        have rl : (r.reverse.map chD).length < sizeLine := by rw [List.length_map, List.length_reverse]; omega
        rw [ew]
        have al := at_last (r.reverse.map chD) (chD b)
        have e0 : decide ((0 : Int) < ((r.reverse.map chD ++ [chD b]).length : Int)) = true := decide_eq_true (by rw [List.length_append, List.length_singleton]; omega)
        have e1 : (r.reverse.map chD ++ [chD b])[(r.reverse.map chD ++ [chD b]).length - 1]? = some (chD b) := by simp
        have e2 : (r.reverse.map chD ++ [chD b]).dropLast = r.reverse.map chD := by simp
        cases b with
        | true =>
          walk_at "d"
          rw [e0]
          (repeat ((conv => whnf); first | (refine And.intro (by first | assumption | exact True.intro | rfl | decide | exact Nat.le_of_ble_eq_true rfl | omega) ?_) | (rw [al]))); (try (conv => whnf))
          rw [eC]
          have e41 : decide (cS [41] = cS [41]) = true := decide_eq_true rfl
          (repeat ((conv => whnf); first | (refine And.intro (by first | assumption | exact True.intro | rfl | decide | exact Nat.le_of_ble_eq_true rfl | omega) ?_) | (rw [e41]))); (try (conv => whnf))
          rw [e1, e2]
          (repeat ((conv => whnf); first | (refine And.intro (by first | assumption | exact True.intro | rfl | decide | exact Nat.le_of_ble_eq_true rfl | omega) ?_))); (try (conv => whnf))
          exact ⟨_, Nat.lt_succ_self _, fs' ++ [[41]], r, by rw [List.map_append, List.map_append]; rfl, by rw [← h1, List.flatten_append]; simp [clo], h2, by rw [List.length_append]; show fs'.length + 1 + _ + _ ≤ _; omega, fun f h => by
            rcases List.mem_append.mp h with h | h
            · exact h4 f h
            · rw [List.mem_singleton.mp h]; exact Nat.le_of_ble_eq_true rfl, rfl⟩
        | false =>
          have e41 : decide (cS [32] = cS [41]) = false := decide_eq_false fun z => by have := cS_inj z; cases this
          walk_at "d"
          rw [e0]
          (repeat ((conv => whnf); first | (refine And.intro (by first | assumption | exact True.intro | rfl | decide | exact Nat.le_of_ble_eq_true rfl | omega) ?_) | (rw [al]))); (try (conv => whnf))
          rw [eC]
          (repeat ((conv => whnf); first | (refine And.intro (by first | assumption | exact True.intro | rfl | decide | exact Nat.le_of_ble_eq_true rfl | omega) ?_) | (rw [e41]))); (try (conv => whnf))
          rw [e0]
          (repeat ((conv => whnf); first | (refine And.intro (by first | assumption | exact True.intro | rfl | decide | exact Nat.le_of_ble_eq_true rfl | omega) ?_))); (try (conv => whnf))
          rw [e1, e2]
          (repeat ((conv => whnf); first | (refine And.intro (by first | assumption | exact True.intro | rfl | decide | exact Nat.le_of_ble_eq_true rfl | omega) ?_))); (try (conv => whnf))
          have hA2 : (fs' ++ [[32]]).flatten = A := by rw [← h1, List.flatten_append]; simp [clo]
          have hS2 : S' = true :: r := by rw [← h2]; rfl
          exact ih _ ⟨fs' ++ [[32]], true :: r, _, by rw [List.map_append, List.map_append, List.reverse_cons, List.map_append]; rfl, by rw [hA2]; rw [hS2] at hr2; exact hr2, hg', by simp only [List.length_append, List.length_cons, List.length_nil]; omega, fun f h => by
            rcases List.mem_append.mp h with h | h
            · exact h4 f h
            · rw [List.mem_singleton.mp h]; exact Nat.le_of_ble_eq_true rfl⟩
end

end K10
set_option maxRecDepth 100000
set_option maxHeartbeats 4000000
/-! s.index(y) where y stands in s -/
namespace L2
open PySem PySem.Spec PyProof.Rows
section
variable {X : Cx}
def rIndexOk : V → List V → Hp → VK → Prop := fun x xs H Q => ∃ (a b : Str) (k : Nat), x = .str a ∧ xs = [.str b] ∧ Txt.index0 a b = some k ∧ Q (.int (k : Nat)) H
theorem mt_indexOk : MtR X "str.index" rIndexOk := by
  intro pins s σ H x xs v us Q I rx rs h
  obtain ⟨a, b, k0, rfl, rfl, hk, hy⟩ := h
  obtain ⟨t, rfl⟩ := rx
  cases rs with
  | cons r1 rs =>
    cases rs
    obtain ⟨u, rfl⟩ := r1
    cases q : Builtin.Str.occurrences a b 0 a.length 1 with
    | nil =>
      unfold Txt.index0 at hk
      rw [q] at hk
      cases hk
    | cons k rest =>
      have e : k = k0 := by
        unfold Txt.index0 at hk
        rw [q] at hk
        exact Option.some.inj hk
      subst e
      exact PySem.SC.index q ⟨.int (k : Nat), H, I.tok _, ⟨_, rfl⟩, hy⟩
end
end L2
set_option maxRecDepth 100000
set_option maxHeartbeats 2000000
namespace K10
open PySem PySem.Spec PyProof.Rows L2 Us Dl
/-! ### the reader -/
abbrev RC (K : PySem.W.Frag) : Addr := He.ga K "Reader"
def fsR (l : List Nat) (n : Nat) : List (Str × V) := [("kept_text", .str (cS l)), ("kept_at", .int (n : Int))]
def Rd (K : PySem.W.Frag) (B H : Hp) (r : Addr) (l : List Nat) (n : Nat) : Prop := ∃ dx, Own B H r (.ins (RC K) dx (fsR l n))
theorem Rd.up {K : PySem.W.Frag} {B H B' H' : Hp} {r : Addr} {l : List Nat} {n : Nat} (g : Gr [] B H B' H') (h : Rd K B H r l n) : Rd K B' H' r l n := by
  obtain ⟨dx, o⟩ := h
  exact ⟨dx, o.up g⟩
theorem fs_tx (l : List Nat) (n : Nat) : (fsR l n).lookup ("kept_text" : Str) = some (V.str (cS l)) := rfl
theorem fs_at (l : List Nat) (n : Nat) : (fsR l n).lookup ("kept_at" : Str) = some (V.int (n : Int)) := rfl
theorem fs_put (l : List Nat) (n m : Nat) : putF "kept_at" (V.int (m : Int)) (fsR l n) = fsR l m := rfl
def spSign (K : PySem.W.Frag) : Sp := fun vs H Q _ => ∃ (B : Hp) (r : Addr) (l : List Nat) (n : Nat), vs = [.ref r] ∧ Rd K B H r l n ∧ l.length ≤ 100000 ∧ Q (.str (cS ((l.drop n).take 1))) H
def smallC (c : Nat) : Bool := decide (97 ≤ c) && decide (c ≤ 122)
def spSmall (K : PySem.W.Frag) : Sp := fun vs H Q _ => ∃ (B : Hp) (r : Addr) (l : List Nat) (n : Nat), vs = [.ref r] ∧ Rd K B H r l n ∧ l.length ≤ 100000 ∧ Q (.bl ((l[n]?).any smallC)) H
/-- goes on by w -/
def spGo (K : PySem.W.Frag) : Sp := fun vs H Q _ => ∃ (B : Hp) (r : Addr) (l : List Nat) (n : Nat) (w : List Nat), vs = [.ref r, .str (cS w)] ∧ Same B H ∧ Rd K B H r l n ∧ l.length ≤ 100000 ∧ (∃ t, l.drop n = w ++ t) ∧ ∀ B' H', Gr [r] B H B' H' → Rd K B' H' r l (n + w.length) → Q .non H'
def spLetter (K : PySem.W.Frag) : Sp := fun vs H Q _ => ∃ (B : Hp) (r : Addr) (l : List Nat) (n c : Nat), vs = [.ref r] ∧ Same B H ∧ Rd K B H r l n ∧ l.length ≤ 100000 ∧ l[n]? = some c ∧ smallC c = true ∧ ∀ B' H', Gr [r] B H B' H' → Rd K B' H' r l (n + 1) → Q (.int ((c - 97 : Nat) : Int)) H'
def spFinish (K : PySem.W.Frag) : Sp := fun vs H Q _ => ∃ (B : Hp) (r : Addr) (l : List Nat) (n : Nat), vs = [.ref r] ∧ Rd K B H r l n ∧ l.length ≤ 100000 ∧ l.drop n = [] ∧ Q .non H
def spName (K : PySem.W.Frag) : Sp := fun vs H Q _ => ∃ (B : Hp) (r : Addr) (l : List Nat) (n : Nat) (z : List Nat), vs = [.ref r] ∧ Same B H ∧ Rd K B H r l n ∧ l.length ≤ 100000 ∧ (∃ t, l.drop n = z ++ t ∧ (t.head?).any smallC = false) ∧ (∀ c ∈ z, smallC c = true) ∧ 0 < z.length ∧ z.length ≤ 8 ∧ ∀ B' H', Gr [r] B H B' H' → Rd K B' H' r l (n + z.length) → Q (.str (cS z)) H'
theorem cut1 {l : List Nat} {n : Nat} : cutS (cS l) (some (n : Int)) (some ((n : Int) + 1)) = cS ((l.drop n).take 1) := by
  unfold cutS
  have e : (n : Int) + 1 = ((n + 1 : Nat) : Int) := by omega
  rw [e, HT.sIx_nat, HT.sIx_nat, cS_len]
  congr 2
  rcases Nat.lt_or_ge n l.length with c | c
  · rw [Nat.min_eq_left (by omega), Nat.min_eq_left (by omega), show n + 1 - n = 1 by omega]
  · rw [Nat.min_eq_right (by omega), Nat.min_eq_right (by omega), Nat.sub_self, List.drop_eq_nil_of_le (by simp), List.drop_eq_nil_of_le c]
    rfl
theorem cutN {l : List Nat} {n : Nat} {z t0 : List Nat} (h : l.drop n = z ++ t0) : cutS (cS l) (some (n : Int)) (some ((n + z.length : Nat) : Int)) = cS z := by
  have hn : n + z.length ≤ l.length ∨ z = [] := by
    have := congrArg List.length h
    rw [List.length_drop, List.length_append] at this
    cases z with
    | nil => exact .inr rfl
    | cons a r => left; simp only [List.length_cons] at this ⊢; omega
  unfold cutS
  rw [HT.sIx_nat, HT.sIx_nat, cS_len]
  show cS ((l.drop _).take _) = cS z
  rcases hn with hn | rfl
  · rw [Nat.min_eq_left (a := n) (b := l.length) (by omega), Nat.min_eq_left hn, show n + z.length - n = z.length by omega, h, List.take_left]
  · rw [show min (n + ([] : List Nat).length) l.length - min n l.length = 0 by simp]
    rfl
theorem take1 (l : List Nat) (n : Nat) : (l.drop n).take 1 = (l[n]?).toList := by
  rcases Nat.lt_or_ge n l.length with c | c
  · rw [List.drop_eq_getElem_cons c, List.getElem?_eq_getElem c]; rfl
  · rw [List.drop_eq_nil_of_le c, List.getElem?_eq_none c]; rfl
theorem at_cons {l : List Nat} {n : Nat} {c : Nat} {t : List Nat} (h : l.drop n = c :: t) : l[n]? = some c ∧ l.drop (n + 1) = t ∧ n < l.length := by
  have hn : n < l.length := by
    rcases Nat.lt_or_ge n l.length with c | c
    · exact c
    · rw [List.drop_eq_nil_of_le c] at h; cases h
  rw [List.drop_eq_getElem_cons hn] at h
  injection h with h1 h2
  exact ⟨by rw [List.getElem?_eq_getElem hn, h1], h2, hn⟩
theorem at_app {l : List Nat} {n : Nat} {w t : List Nat} (h : l.drop n = w ++ t) : l.drop (n + w.length) = t := by
  rw [← List.drop_drop, h, List.drop_left]
theorem in_small (c : Nat) : decide (c ∈ (Str.ofString "abcdefghijklmnopqrstuvwxyz").cps.toList) = smallC c := by
  have e : (Str.ofString "abcdefghijklmnopqrstuvwxyz").cps.toList = List.range' 97 26 := by decide +kernel
  rw [e]
  unfold smallC
  by_cases h : 97 ≤ c ∧ c ≤ 122
  · rw [decide_eq_true h.1, decide_eq_true h.2]
    exact decide_eq_true (List.mem_range'_1.mpr ⟨h.1, by omega⟩)
  · rw [decide_eq_false (fun z => h ⟨(List.mem_range'_1.mp z).1, by have := (List.mem_range'_1.mp z).2; omega⟩)]
    by_cases h1 : 97 ≤ c
    · rw [decide_eq_false (p := c ≤ 122) (fun z => h ⟨h1, z⟩), Bool.and_false]
    · rw [decide_eq_false h1, Bool.false_and]
theorem small_ix {c : Nat} (h : smallC c = true) : Txt.index0 (Str.ofString "abcdefghijklmnopqrstuvwxyz") { cps := #[c] } = some (c - 97) := by
  have all : ∀ i : Fin 26, Txt.index0 (Str.ofString "abcdefghijklmnopqrstuvwxyz") { cps := #[97 + i.val] } = some i.val := by decide +kernel
  unfold smallC at h
  have h1 := of_decide_eq_true (Bool.and_eq_true_iff.mp h).1
  have h2 := of_decide_eq_true (Bool.and_eq_true_iff.mp h).2
  have := all ⟨c - 97, by omega⟩
  rwa [show 97 + (c - 97) = c by omega] at this
theorem s1_ne {c : Nat} : (!decide (V.str (cS [c]) = V.str (Str.ofString ""))) = true := by
  have : V.str (cS [c]) ≠ V.str (Str.ofString "") := fun z => by
    injection z with z
    have := congrArg (fun s : Str => s.cps.size) z
    exact absurd this (by show ¬ (1 = 0); decide)
  rw [decide_eq_false this]
  rfl
theorem s0_eq : (!decide (V.str (cS []) = V.str (Str.ofString ""))) = false := by decide
/-- the reader goes on -/
theorem Rd.step {K : PySem.W.Frag} {B H : Hp} {r dx : Addr} {l : List Nat} {n m : Nat} (hS : Same B H) (o : Own B H r (.ins (RC K) dx (fsR l n))) : Gr [r] B H B (upd H r (.ins (RC K) dx (fsR l m))) ∧ Rd K B (upd H r (.ins (RC K) dx (fsR l m))) r l m :=
  ⟨Gr.set hS o.1 o.2 (List.mem_singleton.mpr rfl), dx, o.put⟩
section
variable {P : Program} {w : World} {K : PySem.W.Frag} {mg : Str → Option Value} {base : Heap}
theorem i_aug1 (T : Txt K mg) {B H : Hp} {r dx : Addr} {l : List Nat} {n i : Nat} {σ : L2.St} {D : L2.Ends} (hi : σ[i]? = some (some (.ref r))) (o : Own B H r (.ins (RC K) dx (fsR l n))) (q : D.nx σ (upd H r (.ins (RC K) dx (fsR l (n + 1))))) : sFldAug K (tVar i) (tC (V.int 1)) rAdd "kept_at" D σ H :=
  by
  refine ⟨_, hi, r, _, dx, _, _, rfl, o.2, T.x_Reader, T.na_kept_at, fs_at l n, ?_⟩
  refine i_c ?_
  refine ⟨_, _, rfl, rfl, ?_⟩
  exact ⟨dx, _, o.2, by show 2 < 1000; decide, q⟩
theorem ok_sign (T : Txt K mg) {fd : FuncData} (F : FunD K "sign" "Reader.sign" (defArgs s_Reader_sign) (defBody s_Reader_sign) (defScope s_Reader_sign) [] [] (He.ma K (He.ga K "Reader") "sign") fd) : FnOk P w K mg base CX0 1 (He.ma K (He.ga K "Reader") "sign") fd p_Reader_sign (spSign K) := by
  refine F.ok sc_Reader_sign (fun vs H Q E h => ?_) (fun cdv A outer s H vs Q E hr h => ?_)
  · obtain ⟨B, r, l, n, rfl, _⟩ := h
    rfl
  · obtain ⟨B, r, l, n, rfl, ⟨dx, o⟩, hl, k⟩ := h
    refine ⟨_, PSs.nox (pss_one (ps_ret (pe_slice sl_str (pe_fld (pv 0) rfl) (po_some (pe_fld (pv 0) rfl)) (po_some (pe_op op_add (pe_fld (pv 0) rfl) pe_int))))), ?_⟩
    walk_at "go"
    refine ⟨r, _, dx, _, _, rfl, o.2, T.x_Reader, T.na_kept_text, fs_tx l n, ?_⟩
    walk_at "go"
    refine ⟨r, _, dx, _, _, rfl, o.2, T.x_Reader, T.na_kept_at, fs_at l n, ?_⟩
    walk_at "go"
    refine ⟨r, _, dx, _, _, rfl, o.2, T.x_Reader, T.na_kept_at, fs_at l n, ?_⟩
    walk_at "go"
    refine ⟨cS l, rfl, by rw [cS_len]; exact Nat.le_trans hl (by decide), ?_⟩
    rw [cut1]
    exact k
theorem ok_small (T : Txt K mg) {fs : FuncData} (Gsign : FnOk P w K mg base CX0 1 (He.ma K (He.ga K "Reader") "sign") fs p_Reader_sign (spSign K)) (bsign : L2.Binds K fs p_Reader_sign []) {fd : FuncData} (F : FunD K "is_small" "Reader.is_small" (defArgs s_Reader_is_small) (defBody s_Reader_is_small) (defScope s_Reader_is_small) [] [] (He.ma K (He.ga K "Reader") "is_small") fd) : FnOk P w K mg base CX0 2 (He.ma K (He.ga K "Reader") "is_small") fd p_Reader_is_small (spSmall K) := by
  refine F.ok sc_Reader_is_small (fun vs H Q E h => ?_) (fun cdv A outer s H vs Q E hr h => ?_)
  · obtain ⟨B, r, l, n, rfl, _⟩ := h
    rfl
  · obtain ⟨B, r, l, n, rfl, R, hl, k⟩ := h
    obtain ⟨dx, o⟩ := id R
    refine ⟨_, PSs.nox (pss_one (ps_ret (pe_and (pe_cmpR op_ne (pe_meth0 (pv 0) T.x_Reader T.me_sign Gsign (hr.mono (by first | decide | omega)) bsign .nil pass0) pe_str (nomark _)) (pe_one (pe_cmpR op_in_sign (pe_meth0 (pv 0) T.x_Reader T.me_sign Gsign (hr.mono (by first | decide | omega)) bsign .nil pass0) (pe_globD T.c_SMALL) (by rfl)))))), ?_⟩
    walk_at "go"
    refine ⟨r, dx, _, rfl, o.2, rfl, ?_⟩
    walk_at "go"
    refine ⟨B, r, l, n, rfl, R, hl, ?_⟩
    walk_at "go"
    rw [take1]
    cases e : l[n]? with
    | none =>
      rw [e] at k
      show (if (!decide (V.str (cS []) = V.str (Str.ofString ""))) = true then _ else _)
      rw [s0_eq]
      walk_at "go"
      exact k
    | some c =>
      rw [e] at k
      show (if (!decide (V.str (cS [c]) = V.str (Str.ofString ""))) = true then _ else _)
      rw [s1_ne]
      walk_at "go"
      refine ⟨r, dx, _, rfl, o.2, rfl, ?_⟩
      walk_at "go"
      refine ⟨B, r, l, n, rfl, R, hl, ?_⟩
      rw [take1, e]
      walk_at "go"
      refine ⟨c, _, rfl, rfl, ?_⟩
      rw [in_small]
      exact k
theorem ok_need (T : Txt K mg) {fs : FuncData} (Gsign : FnOk P w K mg base CX0 1 (He.ma K (He.ga K "Reader") "sign") fs p_Reader_sign (spSign K)) (bsign : L2.Binds K fs p_Reader_sign []) {fd : FuncData} (F : FunD K "need" "Reader.need" (defArgs s_Reader_need) (defBody s_Reader_need) (defScope s_Reader_need) [] [] (He.ma K (He.ga K "Reader") "need") fd) : FnOk P w K mg base CX0 2 (He.ma K (He.ga K "Reader") "need") fd p_Reader_need (spGo K) := by
  refine F.ok sc_Reader_need (fun vs H Q E h => ?_) (fun cdv A outer s H vs Q E hr h => ?_)
  · obtain ⟨B, r, l, n, w, rfl, _⟩ := h
    rfl
  · obtain ⟨B, r, l, n, w, rfl, hS, R, hl, ⟨t0, hw⟩, k⟩ := h
    refine ⟨_, PSs.nox (pss_one (ps_for PassesOwn.never rfl (pi_str (pv 1)) (pg_name (i := 2) sc_Reader_need.nd rfl (Or.inl rfl))
      (pss_cons (ps_if (pt_cmpR op_ne (pe_meth0 (pv 0) T.x_Reader T.me_sign Gsign (hr.mono (by first | decide | omega)) bsign .nil pass0) (pv 2) (nomark _))
        (pss_one ps_never)
        pss_nil)
      (pss_one (ps_fldaug (pv 0) pe_int in_add))))), ?_⟩
    walk_at "go"
    refine ⟨_, rfl, fun i m σ H' => m + i = w.length ∧ (∃ v2, σ = [some (.ref r), some (.str (cS w)), v2]) ∧ Gr [r] B H B H' ∧ Rd K B H' r l (n + i), ⟨w.length, rfl, ⟨none, rfl⟩, Gr.refl hS, R⟩, ?_⟩
    rintro i m σ H' ⟨hm, ⟨v2, rfl⟩, g, R'⟩
    by_cases hi : i = w.length
    · left
      refine ⟨?_, ?_⟩
      · show (cS w).cps.size ≤ i
        rw [hi]; simp
      · rw [hi] at R'
        exact k _ _ g R'
    · right
      have hlt : i < w.length := by omega
      refine ⟨?_, fun σ' H' => (∃ v2, σ' = [some (.ref r), some (.str (cS w)), v2]) ∧ Gr [r] B H B H' ∧ Rd K B H' r l (n + (i + 1)), fun σ' H' ⟨a, b, c⟩ => ⟨w.length - (i + 1), by omega, by omega, a, b, c⟩, ?_⟩
      · show i < (cS w).cps.size
        simpa using hlt
      · rintro x H1 ⟨rfl, c, hc, rfl⟩
        have hc' : w[i]? = some c := by simpa using hc
        have hn : l[n + i]? = some c := by
          have : (l.drop n)[i]? = some c := by rw [hw, List.getElem?_append_left hlt, hc']
          rwa [List.getElem?_drop] at this
        obtain ⟨dx, o⟩ := id R'
        walk_at "go"
        refine ⟨r, dx, _, rfl, o.2, rfl, ?_⟩
        walk_at "go"
        refine ⟨B, r, l, n + i, rfl, R', hl, ?_⟩
        rw [take1, hn]
        walk_at "go"
        rw [show (!decide (V.str (cS (some c).toList) = V.str { cps := #[c] })) = false by rw [decide_eq_true (show V.str (cS (some c).toList) = V.str { cps := #[c] } from rfl)]; rfl]
        walk_at "go"
        refine i_next ?_
        refine i_aug1 T rfl o ?_
        have st := Rd.step (m := n + i + 1) g.bh o
        exact ⟨⟨_, rfl⟩, g.trans st.1, st.2⟩
theorem ok_letter (T : Txt K mg) {fs : FuncData} (Gis_small : FnOk P w K mg base CX0 2 (He.ma K (He.ga K "Reader") "is_small") fs p_Reader_is_small (spSmall K)) (bis_small : L2.Binds K fs p_Reader_is_small []) {fd : FuncData} (F : FunD K "letter" "Reader.letter" (defArgs s_Reader_letter) (defBody s_Reader_letter) (defScope s_Reader_letter) [] [] (He.ma K (He.ga K "Reader") "letter") fd) : FnOk P w K mg base CX0 3 (He.ma K (He.ga K "Reader") "letter") fd p_Reader_letter (spLetter K) := by
  refine F.ok sc_Reader_letter (fun vs H Q E h => ?_) (fun cdv A outer s H vs Q E hr h => ?_)
  · obtain ⟨B, r, l, n, c, rfl, _⟩ := h
    rfl
  · obtain ⟨B, r, l, n, c, rfl, hS, R, hl, hc, sm, k⟩ := h
    obtain ⟨dx, o⟩ := id R
    refine ⟨_, PSs.nox (pss_cons (ps_if (pt_not (pt_val (pe_meth0 (pv 0) T.x_Reader T.me_is_small Gis_small (hr.mono (by first | decide | omega)) bis_small .nil pass0)))
      (pss_one ps_never)
      pss_nil)
    (pss_cons (ps_fldaug (pv 0) pe_int in_add)
    (pss_one (ps_ret (pe_bm PySem.F.plainAttrs_str PySem.F.slot_str_index PySem.F.type_str_index mt_indexOk (pe_globD T.c_SMALL) (pa_cons (pe_ix ix_str (pe_fld (pv 0) rfl) (pe_op op_sub (pe_fld (pv 0) rfl) pe_int) (fun _ _ => rfl)) pa_nil)))))), ?_⟩
    walk_at "go"
    refine ⟨r, dx, _, rfl, o.2, rfl, ?_⟩
    walk_at "go"
    refine ⟨B, r, l, n, rfl, R, hl, ?_⟩
    rw [hc, show Option.any smallC (some c) = true from sm]
    walk_at "go"
    refine i_aug1 T rfl o ?_
    have st := Rd.step (m := n + 1) hS o
    obtain ⟨dx2, o2⟩ := id st.2
    have hn : n < l.length := by
      rcases Nat.lt_or_ge n l.length with c | c
      · exact c
      · rw [List.getElem?_eq_none c] at hc; cases hc
    walk_at "go"
    refine ⟨rfl, ?_⟩
    walk_at "go"
    refine ⟨r, _, dx2, _, _, rfl, o2.2, T.x_Reader, T.na_kept_text, fs_tx l _, ?_⟩
    walk_at "go"
    refine ⟨r, _, dx2, _, _, rfl, o2.2, T.x_Reader, T.na_kept_at, fs_at l _, ?_⟩
    walk_at "go"
    refine ⟨cS l, _, c, rfl, rfl, by rw [cS_len]; exact Nat.le_trans hl (by decide), ?_, ?_⟩
    · rw [show ((n + 1 : Nat) : Int) - 1 = (n : Int) by omega]
      exact atI_nat hc
    · exact ⟨_, _, c - 97, rfl, rfl, small_ix sm, k _ _ st.1 st.2⟩
theorem ok_finish (T : Txt K mg) {fs : FuncData} (Gsign : FnOk P w K mg base CX0 1 (He.ma K (He.ga K "Reader") "sign") fs p_Reader_sign (spSign K)) (bsign : L2.Binds K fs p_Reader_sign []) {fd : FuncData} (F : FunD K "finish" "Reader.finish" (defArgs s_Reader_finish) (defBody s_Reader_finish) (defScope s_Reader_finish) [] [] (He.ma K (He.ga K "Reader") "finish") fd) : FnOk P w K mg base CX0 2 (He.ma K (He.ga K "Reader") "finish") fd p_Reader_finish (spFinish K) := by
  refine F.ok sc_Reader_finish (fun vs H Q E h => ?_) (fun cdv A outer s H vs Q E hr h => ?_)
  · obtain ⟨B, r, l, n, rfl, _⟩ := h
    rfl
  · obtain ⟨B, r, l, n, rfl, R, hl, hd, k⟩ := h
    obtain ⟨dx, o⟩ := id R
    refine ⟨_, PSs.nox (pss_one (ps_if (pt_cmpR op_ne (pe_meth0 (pv 0) T.x_Reader T.me_sign Gsign (hr.mono (by first | decide | omega)) bsign .nil pass0) pe_str (nomark _))
      (pss_one ps_never)
      pss_nil)), ?_⟩
    walk_at "go"
    refine ⟨r, dx, _, rfl, o.2, rfl, ?_⟩
    walk_at "go"
    refine ⟨B, r, l, n, rfl, R, hl, ?_⟩
    rw [hd]
    walk_at "go"
    show (if (!decide (V.str (cS []) = V.str (Str.ofString ""))) = true then _ else _)
    rw [s0_eq]
    walk_at "go"
    exact k
theorem ok_name (T : Txt K mg) {fs : FuncData} (Gis_small : FnOk P w K mg base CX0 2 (He.ma K (He.ga K "Reader") "is_small") fs p_Reader_is_small (spSmall K)) (bis_small : L2.Binds K fs p_Reader_is_small []) {fd : FuncData} (F : FunD K "name" "Reader.name" (defArgs s_Reader_name) (defBody s_Reader_name) (defScope s_Reader_name) [] [] (He.ma K (He.ga K "Reader") "name") fd) : FnOk P w K mg base CX0 3 (He.ma K (He.ga K "Reader") "name") fd p_Reader_name (spName K) := by
  refine F.ok sc_Reader_name (fun vs H Q E h => ?_) (fun cdv A outer s H vs Q E hr h => ?_)
  · obtain ⟨B, r, l, n, z, rfl, _⟩ := h
    rfl
  · obtain ⟨B, r, l, n, z, rfl, hS, R, hl, ⟨t0, hz, ht⟩, hs, z0, z8, k⟩ := h
    obtain ⟨dx, o⟩ := id R
    refine ⟨_, PSs.nox (pss_cons (ps_set (i := 1) sc_Reader_name.nd rfl (Or.inl rfl) (pe_fld (pv 0) rfl))
    (pss_cons (ps_while PassesOwn.never (PW.pt (pw_and (pt_val (pe_meth0 (pv 0) T.x_Reader T.me_is_small Gis_small (hr.mono (by first | decide | omega)) bis_small .nil pass0)) (pw_and1 (pt_cmpR op_lt (pe_fld (pv 0) rfl) (pe_op op_add (pv 1) (pe_globD T.c_MOST_SIGNS)) (nomark _)))))
      (pss_one (ps_fldaug (pv 0) pe_int in_add)))
    (pss_cons (ps_if (pt_cmpR op_eq (pe_fld (pv 0) rfl) (pv 1) (nomark _))
      (pss_one ps_never)
      pss_nil)
    (pss_one (ps_ret (pe_slice sl_str (pe_fld (pv 0) rfl) (po_some (pv 1)) (po_some (pe_fld (pv 0) rfl)))))))), ?_⟩
    walk_at "go"
    refine ⟨r, _, dx, _, _, rfl, o.2, T.x_Reader, T.na_kept_at, fs_at l _, ?_⟩
    walk_at "go"
    refine i_while (fun m σ H' => ∃ i, m + i = z.length ∧ σ = [some (.ref r), some (.int (n : Int))] ∧ Gr [r] B H B H' ∧ Rd K B H' r l (n + i)) z.length ⟨0, rfl, rfl, Gr.refl hS, R⟩ ?_
    rintro m σ H' ⟨i, hm, rfl, g, R'⟩
    obtain ⟨dx1, o1⟩ := id R'
    walk_at "go"
    refine ⟨r, dx1, _, rfl, o1.2, rfl, ?_⟩
    walk_at "go"
    refine ⟨B, r, l, n + i, rfl, R', hl, ?_⟩
    have fin : i = z.length → Q (.str (cS z)) H' := fun e => k _ _ g (e ▸ R')
    by_cases hi : i < z.length
    · have hn : l[n + i]? = some z[i] := by
        have : (l.drop n)[i]? = some z[i] := by rw [hz, List.getElem?_append_left hi, List.getElem?_eq_getElem hi]
        rwa [List.getElem?_drop] at this
      rw [hn, show Option.any smallC (some z[i]) = true from hs _ (List.getElem_mem hi)]
      walk_at "go"
      refine ⟨r, _, dx1, _, _, rfl, o1.2, T.x_Reader, T.na_kept_at, fs_at l _, ?_⟩
      walk_at "go"
      rw [decide_eq_true (show ((n + i : Nat) : Int) < (n : Int) + 8 by omega)]
      walk_at "go"
      refine ⟨fun σ' H' => σ' = [some (.ref r), some (.int (n : Int))] ∧ Gr [r] B H B H' ∧ Rd K B H' r l (n + (i + 1)), fun σ' H' ⟨a, b, c⟩ => ⟨z.length - (i + 1), by omega, i + 1, by omega, a, b, c⟩, ?_⟩
      refine i_aug1 T rfl o1 ?_
      have st := Rd.step (m := n + i + 1) g.bh o1
      exact ⟨rfl, g.trans st.1, st.2⟩
    · have e : i = z.length := by omega
      by_cases c8 : Option.any smallC l[n + i]? = true
      · rw [c8]
        walk_at "go"
        refine ⟨r, _, dx1, _, _, rfl, o1.2, T.x_Reader, T.na_kept_at, fs_at l _, ?_⟩
        walk_at "go"
        have z9 : z.length = 8 := by
          have a := at_app hz
          rw [e, show l[n + z.length]? = t0.head? by rw [← a]; simp] at c8
          rw [ht] at c8
          cases c8
        rw [decide_eq_false (show ¬ ((n + i : Nat) : Int) < (n : Int) + 8 by omega)]
        walk_at "go"
        refine ⟨r, _, dx1, _, _, rfl, o1.2, T.x_Reader, T.na_kept_at, fs_at l _, ?_⟩
        walk_at "go"
        rw [dI, decide_eq_false (show ¬ ((n + i : Nat) : Int) = (n : Int) by omega)]
        walk_at "go"
        refine ⟨r, _, dx1, _, _, rfl, o1.2, T.x_Reader, T.na_kept_text, fs_tx l _, ?_⟩
        walk_at "go"
        refine ⟨r, _, dx1, _, _, rfl, o1.2, T.x_Reader, T.na_kept_at, fs_at l _, ?_⟩
        walk_at "go"
        refine ⟨cS l, rfl, by rw [cS_len]; exact Nat.le_trans hl (by decide), ?_⟩
        rw [e, cutN hz]
        exact fin e
      · rw [Bool.eq_false_iff.mpr c8]
        walk_at "go"
        refine ⟨r, _, dx1, _, _, rfl, o1.2, T.x_Reader, T.na_kept_at, fs_at l _, ?_⟩
        walk_at "go"
        rw [dI, decide_eq_false (show ¬ ((n + i : Nat) : Int) = (n : Int) by omega)]
        walk_at "go"
        refine ⟨r, _, dx1, _, _, rfl, o1.2, T.x_Reader, T.na_kept_text, fs_tx l _, ?_⟩
        walk_at "go"
        refine ⟨r, _, dx1, _, _, rfl, o1.2, T.x_Reader, T.na_kept_at, fs_at l _, ?_⟩
        walk_at "go"
        refine ⟨cS l, rfl, by rw [cS_len]; exact Nat.le_trans hl (by decide), ?_⟩
        rw [e, cutN hz]
        exact fin e
end

end K10
set_option maxRecDepth 100000
set_option maxHeartbeats 2000000
/-! xs[::-1] of a list -/
namespace Dl
open PySem PySem.Spec PyProof.Rows L2 Us
section
variable {X : Cx} {K : PySem.W.Frag} {W : WX} {x : Expr} {pos : Pos} {ea : TE} {ta : DE}
def revL (t : DE) : DE := fun s E P => t s E fun d s1 => match d with
  | .lst xs => P (.lst xs.reverse) s1
  | _ => False
theorem de_revL {c0 : Nat} {p1 p2 p3 : Pos} (h : DPE X K W x ea ta) : DPE X K W (.Subscript x (.Slice none none (some (.UnaryOp .USub (.Constant (.int 1) c0 p1) p2)) p3) pos) (tRevL K ea) (revL ta) :=
  ⟨h.k, by have hk := h.k; subst hk; exact pe_revL h.pe, fun a B0 H0 s σ B H E P Q R L ht k => h.sn a B0 H0 s σ B H E _ _ R L ht fun d s1 v B1 H1 f em q => by
    cases d with
    | lst xs =>
      obtain ⟨p, us, rfl, hp, r⟩ := Emb.lst em
      exact ⟨p, us, rfl, SqL.of (f.rel.gr.bh _ _ hp), fun l hl => k _ s1 _ _ _ (f.trans (.pure f.rel (Stp.new f.rel.gr.bh hl))) (emb_lst upd_same (r.reverse.mono (Same.new (bfresh f.rel.gr.bh hl)))) q⟩
    | _ => exact q.elim⟩
end
end Dl
set_option maxRecDepth 100000
set_option maxHeartbeats 2000000
namespace K10
open PySem PySem.Spec PyProof.Rows L2 Us Dl
def spNewR (K : PySem.W.Frag) : Sp := fun vs H Q _ => ∃ (B : Hp) (x dx : Addr) (l : List Nat), vs = [.ref x, .str (cS l)] ∧ Same B H ∧ Own B H x (.ins (RC K) dx []) ∧ ∀ B' H', Gr [x] B H B' H' → Rd K B' H' x l 0 → Q .non H'
def bld (row : List Kd) (c : Kd) : Kd := row.foldr Kd.pr c
def dJoined : DSp := fun ds P _ => ∃ (row : List Kd) (c : Kd), ds = [.lst ((row ++ [c]).map Kd.d)] ∧ row.length < 100000 ∧ P (bld row c).d
theorem cut_m1 (xs : List D) (y : D) : Dl.cutD (xs ++ [y]) none (some (-1)) = xs := by
  unfold Dl.cutD
  have e : HT.sIx (xs ++ [y]).length (xs ++ [y]).length (some (-1)) = xs.length := by
    rw [List.length_append]
    unfold HT.sIx
    simp
    omega
  rw [e]
  show (xs ++ [y]).take xs.length = xs
  rw [List.take_left]
section
variable {P : Program} {w : World} {K : PySem.W.Frag} {mg : Str → Option Value} {base : Heap}
theorem ok_initR (T : Txt K mg) {fd : FuncData} (F : FunD K "__init__" "Reader.__init__" (defArgs s_Reader__init) (defBody s_Reader__init) (defScope s_Reader__init) [] [] (He.ma K (He.ga K "Reader") "__init__") fd) : FnOk P w K mg base CX0 1 (He.ma K (He.ga K "Reader") "__init__") fd p_Reader__init (spNewR K) := by
  refine F.ok sc_Reader__init (fun vs H Q E h => ?_) (fun cdv A outer s H vs Q E hr h => ?_)
  · obtain ⟨B, x, dx, l, rfl, _⟩ := h
    rfl
  · obtain ⟨B, x, dx, l, rfl, hS, o, k⟩ := h
    have sh : Sh K B (.str (cS l)) := Sh.str _
    refine ⟨_, PSs.nox (pss_cons (ps_if (pt_not (pt_val (pe_callB call_isi (by rfl) T.f_isinstance (by decide +kernel) (pa_cons (pv 1) (pa_cons (pe_bltn (v := .ty "str") (by rfl) T.f_str (by decide +kernel) rfl) pa_nil)))))
      (pss_one ps_never)
      pss_nil)
    (pss_cons (ps_fld (pv 0) (pv 1) rfl)
    (pss_one (ps_fld (pv 0) pe_int rfl)))), ?_⟩
    walk_at "go"
    rw [show shB B (V.str (cS l)) "str" = true from rfl]
    walk_at "go"
    refine ⟨x, _, dx, _, rfl, o.2, T.x_Reader, T.na_kept_text, by show 0 < 1000; decide, ?_⟩
    have s1 : Gr [x] B H B (upd H x (.ins (RC K) dx (putF "kept_text" (.str (cS l)) []))) := Gr.set hS o.1 o.2 (List.mem_singleton.mpr rfl)
    have o1 := o.put (u := .ins (RC K) dx (putF "kept_text" (.str (cS l)) []))
    walk_at "go"
    refine ⟨x, _, dx, _, rfl, o1.2, T.x_Reader, T.na_kept_at, by show 1 < 1000; decide, ?_⟩
    have s2 : Gr [x] B _ B (upd _ x (.ins (RC K) dx (putF "kept_at" (.int 0) (putF "kept_text" (.str (cS l)) [])))) := Gr.set s1.bh o1.1 o1.2 (List.mem_singleton.mpr rfl)
    exact k _ _ (s1.trans s2) ⟨dx, o1.put (u := .ins (RC K) dx (putF "kept_at" (.int 0) (putF "kept_text" (.str (cS l)) [])))⟩
theorem ok_joined (T : Txt K mg) : DefOk P w K mg base CX0 1 "joined_kind" p_joined_kind (toSp K dJoined) := by
  refine T.d_joined_kind.dl sc_joined_kind (fun _ _ _ _ _ _ us hl => match us, hl with | [_], _ => rfl) (fun ds Q E ⟨row, c, h, _⟩ => by rw [h]; rfl) (fun fa cdv A outer s H E hr => ⟨_, _, (dss_cons (ds_set (i := 1) sc_joined_kind.nd rfl (Or.inl rfl) (de_ixV (pv 0) (de_un un_neg l_neg de_int)))
    (dss_cons (ds_for (vs := [2]) PassesOwn.never rfl (di_list (de_revL (de_n (dn_slL (dv 0) do_none (do_some (de_un un_neg l_neg de_int)))))) (dg_name (i := 2) (by decide) sc_joined_kind.nd rfl (Or.inl rfl))
      (dss_one (ds_set (i := 1) sc_joined_kind.nd rfl (Or.inl rfl) (de_tup (da_cons (dv 2) (da_cons (dv 1) da_nil))))))
    (dss_one (ds_ret (dv 1))))), fun ds Q E h => ?_⟩)
  obtain ⟨row, c, rfl, hl, k⟩ := h
  walk_at "r"
  walk_at "d"
  have e0 : List.map Kd.d (row ++ [c]) = row.map Kd.d ++ [c.d] := by rw [List.map_append]; rfl
  rw [e0, at_last]
  walk_at "d"
  rw [show (Dl.cutD (List.map Kd.d row ++ [c.d]) none (some (-1))).reverse = row.reverse.map Kd.d by rw [cut_m1, List.map_reverse]]
  refine for_ind Kd.d (fun rest s => ∃ (done : List Kd) (v2 : Sl), s = [.val (.lst (List.map Kd.d row ++ [c.d])), .val (bld done c).d, v2] ∧ rest.reverse ++ done = row) ?_ ?_ row.reverse _ ⟨[], _, rfl, by simp⟩
  · rintro s ⟨done, v2, rfl, e⟩
    walk_at "d"
    simp only [List.reverse_nil, List.nil_append] at e
    rw [e]
    exact k
  · rintro x rest s ⟨done, v2, rfl, e⟩ ih
    walk_at "r"
    walk_at "d"
    exact ih _ ⟨x :: done, _, rfl, by rw [← e]; simp⟩
end

end K10
set_option maxRecDepth 100000
set_option maxHeartbeats 2000000
namespace K10
open PySem PySem.Spec PyProof.Rows L2 Us Dl
abbrev Ce := Addr × List Kd
def txt : List (Ce × Kd) → List Nat
  | [] => []
  | [c] => ktx c.2
  | c :: d :: r => ktx c.2 ++ ([41] ++ ([32, 62, 32] ++ txt (d :: r)))
/-- every row but the lowest becomes a pair; the lowest becomes k -/
def Res (k : Kd) : List (Ce × Kd) → Prop
  | [] => False
  | [c] => bld c.1.2 c.2 = k
  | c :: d :: r => isPr (bld c.1.2 c.2) = true ∧ Res k (((d.1.1, d.1.2 ++ [bld c.1.2 c.2]), d.2) :: r)
termination_by l => l.length
theorem bld_app (row : List Kd) (x y : Kd) : bld (row ++ [x]) y = bld row (.pr x y) := by
  unfold bld
  rw [List.foldr_append]
  rfl
abbrev Wra (r a : Addr) : Addr → Prop := fun b => b = r ∨ b = a
def rowsV (cs : List Ce) : List V := cs.reverse.map fun c => V.ref c.1
theorem rowsV_cons (c : Ce) (cs : List Ce) : rowsV (c :: cs) = rowsV cs ++ [.ref c.1] := by unfold rowsV; simp
structure KI (K : PySem.W.Frag) (a : Addr) (B0 H0 : Hp) (r R : Addr) (l : List Nat) (n : Nat) (cs : List Ce) (B H : Hp) : Prop where
  hr : H0 r ≠ none
  ha : H0 a ≠ none
  st : Stp (Wra r a) B0 H0 B H
  hand : HandOk B H a
  rd : Rd K B H r l n
  hR : H R = some (.lst (rowsV cs))
  bR : B R = none
  oR : H0 R = none
  ce : ∀ c ∈ cs, B c.1 = none ∧ H0 c.1 = none ∧ c.1 ≠ R ∧ ∃ us, H c.1 = some (.lst us) ∧ EmbL K a B (c.2.map Kd.d) us
  nd : (cs.map (·.1)).Nodup
  le : cs.length ≤ n + 1 ∧ ∀ c ∈ cs, c.2.length ≤ n
section
variable {K : PySem.W.Frag} {a : Addr} {B0 H0 B H B' H' : Hp} {r R q : Addr} {l : List Nat} {n m : Nat} {cs : List Ce} {row : List Kd} {o : HO}
theorem KI.fresh (k : KI K a B0 H0 r R l n cs B H) (h : H0 q = none) : ¬ Wra r a q := fun z => z.elim (fun e => k.hr (e ▸ h)) fun e => k.ha (e ▸ h)
/-- a step that writes no more than the reader and the hand -/
theorem KI.step (k : KI K a B0 H0 r R l n cs B H) (g : Stp (Wra r a) B H B' H') (hh : HandOk B' H' a) (rd : Rd K B' H' r l m) (hm : n ≤ m) : KI K a B0 H0 r R l m cs B' H' where
  hr := k.hr
  ha := k.ha
  st := k.st.trans g
  hand := hh
  rd := rd
  hR := g.keep _ _ (k.fresh k.oR) k.hR
  bR := (g.old _ (k.fresh k.oR) (by rw [k.hR]; exact fun z => nomatch z)).trans k.bR
  oR := k.oR
  ce := fun c hc => by
    obtain ⟨h1, h2, h5, us, h3, h4⟩ := k.ce c hc
    exact ⟨(g.old _ (k.fresh h2) (by rw [h3]; exact fun z => nomatch z)).trans h1, h2, h5, us, g.keep _ _ (k.fresh h2) h3, h4.mono g.bb⟩
  nd := k.nd
  le := ⟨by have := k.le.1; omega, fun c hc => by have := k.le.2 c hc; omega⟩
theorem KI.wr (k : KI K a B0 H0 r R l n cs B H) (h0 : H0 q = none) (hB : B q = none) : Stp (Wra r a) B0 H0 B (upd H q o) ∧ HandOk B (upd H q o) a ∧ Rd K B (upd H q o) r l n := by
  have s : Stp (Isa q) B H B (upd H q o) := Stp.set k.st.bh hB rfl
  have nf := k.fresh h0
  refine ⟨((k.st.mono (W' := fun b => Wra r a b ∨ b = q) fun b _ w => .inl w).trans (s.mono fun b _ w => .inr w)).unsee h0, k.hand.mono s fun e => nf (.inr e.symm), ?_⟩
  obtain ⟨dx, o1⟩ := k.rd
  exact ⟨dx, o1.1, s.keep _ _ (fun e => nf (.inl e.symm)) o1.2⟩
theorem KI.push (k : KI K a B0 H0 r R l n cs B H) (hq : H q = none) (hl : cs.length ≤ n) : KI K a B0 H0 r R l n ((q, []) :: cs) B (upd (upd H q (.lst [])) R (.lst (rowsV cs ++ [.ref q]))) := by
  have h0 := k.st.fresh hq
  have hB := bfresh k.st.bh hq
  have qR : q ≠ R := fun e => by rw [e, k.hR] at hq; cases hq
  obtain ⟨s1, hh1, rd1⟩ := k.wr (o := .lst []) h0 hB
  have k1 : KI K a B0 H0 r R l n cs B (upd H q (.lst [])) := ⟨k.hr, k.ha, s1, hh1, rd1, by rw [upd_ne (Ne.symm qR)]; exact k.hR, k.bR, k.oR, fun c hc => by
    obtain ⟨h1, h2, h5, us, h3, h4⟩ := k.ce c hc
    exact ⟨h1, h2, h5, us, by rw [upd_ne (ne_of_none h3 hq)]; exact h3, h4⟩, k.nd, k.le⟩
  obtain ⟨s2, hh2, rd2⟩ := k1.wr (o := .lst (rowsV cs ++ [.ref q])) k.oR k.bR
  refine ⟨k.hr, k.ha, s2, hh2, rd2, by rw [rowsV_cons]; exact upd_same, k.bR, k.oR, fun c hc => ?_, ?_, by show cs.length + 1 ≤ n + 1; omega, fun c hc => ?_⟩
  · rcases List.mem_cons.mp hc with e | hc
    · rw [e]
      exact ⟨hB, h0, qR, [], by rw [upd_ne qR]; exact upd_same, .nil⟩
    · obtain ⟨h1, h2, h5, us, h3, h4⟩ := k1.ce c hc
      exact ⟨h1, h2, h5, us, by rw [upd_ne h5]; exact h3, h4⟩
  · rw [List.map_cons]
    refine List.nodup_cons.mpr ⟨fun z => ?_, k.nd⟩
    obtain ⟨c, hc, e⟩ := List.mem_map.mp z
    obtain ⟨_, _, _, us, h3, _⟩ := k.ce c hc
    dsimp only at e
    rw [e, hq] at h3
    cases h3
  · rcases List.mem_cons.mp hc with e | hc
    · rw [e]; exact Nat.zero_le _
    · exact k.le.2 c hc
theorem KI.app (k : KI K a B0 H0 r R l n ((q, row) :: cs) B H) {x : Kd} {v : V} {us : List V} (em : Emb K a B x.d v) (hq : H q = some (.lst us)) (hl : row.length < n) : KI K a B0 H0 r R l n ((q, row ++ [x]) :: cs) B (upd H q (.lst (us ++ [v]))) := by
  obtain ⟨hB, h0, qR, us', hu, eu⟩ := k.ce _ (List.mem_cons_self ..)
  dsimp only at hB h0 qR hu eu
  rw [hq] at hu
  cases hu
  obtain ⟨s1, hh1, rd1⟩ := k.wr (o := .lst (us ++ [v])) h0 hB
  refine ⟨k.hr, k.ha, s1, hh1, rd1, by rw [upd_ne (Ne.symm qR), k.hR, rowsV_cons, rowsV_cons], k.bR, k.oR, fun c hc => ?_, k.nd, k.le.1, fun c hc => ?_⟩
  · rcases List.mem_cons.mp hc with e | hc
    · rw [e]
      exact ⟨hB, h0, qR, _, upd_same, by rw [List.map_append]; exact eu.append (.cons em .nil)⟩
    · obtain ⟨h1, h2, h5, us, h3, h4⟩ := k.ce c (List.mem_cons_of_mem _ hc)
      have nd := k.nd
      rw [List.map_cons] at nd
      exact ⟨h1, h2, h5, us, by rw [upd_ne fun e => (List.nodup_cons.mp nd).1 (List.mem_map.mpr ⟨c, hc, e⟩)]; exact h3, h4⟩
  · rcases List.mem_cons.mp hc with e | hc
    · rw [e, List.length_append]; exact hl
    · exact k.le.2 c (List.mem_cons_of_mem _ hc)
/-- the top row is taken off, and stands for good -/
theorem KI.pop (k : KI K a B0 H0 r R l n ((q, row) :: cs) B H) {us : List V} (hq : H q = some (.lst us)) : KI K a B0 H0 r R l n cs (upd B q (.lst us)) (upd H R (.lst (rowsV cs))) ∧ EmbL K a (upd B q (.lst us)) [.lst (row.map Kd.d)] [.ref q] := by
  obtain ⟨hB, h0, qR, us', hu, eu⟩ := k.ce _ (List.mem_cons_self ..)
  dsimp only at hB h0 qR hu eu
  rw [hq] at hu
  cases hu
  obtain ⟨s1, hh1, rd1⟩ := k.wr (o := .lst (rowsV cs)) k.oR k.bR
  have hq1 : upd H R (.lst (rowsV cs)) q = some (.lst us) := by rw [upd_ne qR]; exact hq
  have s2 : Stp (Isa q) B (upd H R (.lst (rowsV cs))) (upd B q (.lst us)) (upd H R (.lst (rowsV cs))) := Stp.frz s1.bh hq1 hB rfl
  have nf := k.fresh h0
  have nd := k.nd
  rw [List.map_cons] at nd
  refine ⟨⟨k.hr, k.ha, ((s1.mono (W' := fun b => Wra r a b ∨ b = q) fun b _ w => .inl w).trans (s2.mono fun b _ w => .inr w)).unsee h0, hh1.mono s2 fun e => nf (.inr e.symm), ?_, upd_same, by rw [upd_ne (Ne.symm qR)]; exact k.bR, k.oR, fun c hc => ?_, (List.nodup_cons.mp nd).2, by have := k.le.1; rw [List.length_cons] at this; omega, fun c hc => k.le.2 c (List.mem_cons_of_mem _ hc)⟩, .cons (emb_lst upd_same (eu.mono s2.bb)) .nil⟩
  · obtain ⟨dx, o1⟩ := rd1
    exact ⟨dx, by rw [upd_ne (fun e => nf (.inl e.symm))]; exact o1.1, o1.2⟩
  · obtain ⟨h1, h2, h5, us2, h3, h4⟩ := k.ce c (List.mem_cons_of_mem _ hc)
    have ne : c.1 ≠ q := fun e => (List.nodup_cons.mp nd).1 (List.mem_map.mpr ⟨c, hc, e⟩)
    exact ⟨by rw [upd_ne ne]; exact h1, h2, h5, us2, by rw [upd_ne h5]; exact h3, h4.mono s2.bb⟩
end

end K10
set_option maxRecDepth 100000
set_option maxHeartbeats 2000000
namespace K10
open PySem PySem.Spec PyProof.Rows L2 Us Dl
def tlt : List (Ce × Kd) → List Nat
  | [] => []
  | c :: r => 41 :: 32 :: 62 :: 32 :: (ktx c.2 ++ tlt r)
theorem res_congr {k x y : Kd} {q q' : Addr} {row row' : List Kd} {r : List (Ce × Kd)} (e : bld row x = bld row' y) (h : Res k (((q, row), x) :: r)) : Res k (((q', row'), y) :: r) := by
  cases r with
  | nil => unfold Res at h ⊢; dsimp only at h ⊢; rw [← e]; exact h
  | cons c r => unfold Res at h ⊢; dsimp only at h ⊢; rw [← e]; exact h
theorem res_cons {k x : Kd} {q : Addr} {row : List Kd} {c : Ce} {y : Kd} {r : List (Ce × Kd)} : Res k (((q, row), x) :: (c, y) :: r) = (isPr (bld row x) = true ∧ Res k (((c.1, c.2 ++ [bld row x]), y) :: r)) := by rw [Res]
theorem res_one {k x : Kd} {q : Addr} {row : List Kd} : Res k [((q, row), x)] = (bld row x = k) := by rw [Res]
theorem atV_last (l : List V) (y : V) : atI (l ++ [y]) (-1) = some y := by
  have h : ixN (l ++ [y]).length (-1) = some l.length := by
    unfold ixN
    rw [List.length_append, List.length_singleton, if_neg (by decide), if_pos (by omega)]
    congr 1
    omega
  unfold atI
  rw [h]
  exact List.getElem?_concat_length
theorem rowsV_len (cs : List Ce) : (rowsV cs).length = cs.length := by unfold rowsV; simp
theorem sgO (o : Option Nat) : decide (V.str (cS o.toList) = V.str (Str.ofString "(")) = decide (o = some 40) := by
  rw [show Str.ofString "(" = cS [40] by decide +kernel]
  by_cases h : o = some 40
  · rw [h]; rfl
  · rw [decide_eq_false h, decide_eq_false fun z => h ?_]
    injection z with z
    have := cS_inj z
    cases o with
    | none => cases this
    | some c => cases this; rfl
theorem sgS (o : Option Nat) : decide (V.str (cS o.toList) = V.str (Str.ofString " ")) = decide (o = some 32) := by
  rw [show Str.ofString " " = cS [32] by decide +kernel]
  by_cases h : o = some 32
  · rw [h]; rfl
  · rw [decide_eq_false h, decide_eq_false fun z => h ?_]
    injection z with z
    have := cS_inj z
    cases o with
    | none => cases this
    | some c => cases this; rfl
section
variable {K : PySem.W.Frag} {a : Addr} {B0 H0 B H B' H' : Hp} {r R q : Addr} {l : List Nat} {n m : Nat} {cs : List Ce} {row : List Kd} {o : HO}
theorem Stp.of_grW {r a : Addr} {B H B' H' : Hp} (g : Gr [r] B H B' H') : Stp (Wra r a) B H B' H' := (Stp.of_gr g).mono fun _ _ w => .inl w
theorem Rd.hne {B H : Hp} {a r : Addr} (h : HandOk B H a) (R : Rd K B H r l n) : r ≠ a := fun e => by
  obtain ⟨dx, o⟩ := R
  obtain ⟨_, _, _, _, _, _, _, e1, _⟩ := h
  have oH := o.2
  rw [e, e1] at oH
  cases oH
theorem KI.goOn (k : KI K a B0 H0 r R l n cs B H) (g : Gr [r] B H B' H') (rd : Rd K B' H' r l m) (hm : n ≤ m) : KI K a B0 H0 r R l m cs B' H' :=
  k.step (Stp.of_grW g) (k.hand.mono (Stp.of_gr g) fun e => Rd.hne k.hand k.rd e.symm) rd hm
theorem KI.goA (k : KI K a B0 H0 r R l n cs B H) (g : Stp (Isa a) B H B' H') (hh : HandOk B' H' a) : KI K a B0 H0 r R l n cs B' H' := by
  refine k.step (g.mono fun _ _ w => .inr w) hh ?_ (Nat.le_refl _)
  have ne := Rd.hne k.hand k.rd
  obtain ⟨dx, o⟩ := k.rd
  exact ⟨dx, (g.old _ ne (by rw [o.2]; exact fun z => nomatch z)).trans o.1, g.keep _ _ ne o.2⟩
theorem KI.fin (k : KI K a B0 H0 r R l n ((q, row) :: cs) B H) {us : List V} (hq : H q = some (.lst us)) : Stp (Wra r a) B0 H0 (upd B q (.lst us)) H ∧ HandOk (upd B q (.lst us)) H a ∧ Rd K (upd B q (.lst us)) H r l n ∧ EmbL K a (upd B q (.lst us)) [.lst (row.map Kd.d)] [.ref q] := by
  obtain ⟨hB, h0, qR, us', hu, eu⟩ := k.ce _ (List.mem_cons_self ..)
  dsimp only at hB h0 qR hu eu
  rw [hq] at hu
  cases hu
  have s2 : Stp (Isa q) B H (upd B q (.lst us)) H := Stp.frz k.st.bh hq hB rfl
  have nf := k.fresh h0
  refine ⟨((k.st.mono (W' := fun b => Wra r a b ∨ b = q) fun b _ w => .inl w).trans (s2.mono fun b _ w => .inr w)).unsee h0, k.hand.mono s2 fun e => nf (.inr e.symm), ?_, .cons (emb_lst upd_same (eu.mono s2.bb)) .nil⟩
  obtain ⟨dx, o1⟩ := k.rd
  exact ⟨dx, by rw [upd_ne (fun e => nf (.inl e.symm))]; exact o1.1, o1.2⟩
theorem KI.init (hS : Same B H) (hA : HandOk B H a) (rd : Rd K B H r l n) (hq : H q = none) (hR : upd H q (.lst []) R = none) : KI K a B H r R l n [(q, [])] B (upd (upd H q (.lst [])) R (.lst [.ref q])) := by
  have Rq : R ≠ q := fun e => by rw [e, upd_same] at hR; cases hR
  rw [upd_ne Rq] at hR
  have s1 : Stp No B H B (upd H q (.lst [])) := Stp.cell hS hq
  have s2 : Stp No B (upd H q (.lst [])) B (upd (upd H q (.lst [])) R (.lst [.ref q])) := Stp.cell s1.bh (by rw [upd_ne Rq]; exact hR)
  have s := s1.trans s2
  obtain ⟨dx, o⟩ := id rd
  have hrr : H r ≠ none := by rw [o.2]; exact fun z => nomatch z
  refine ⟨hrr, hA.ne, s.up, hA.mono s id, ⟨dx, (s.old _ id hrr).trans o.1, s.keep _ _ id o.2⟩, upd_same, bfresh hS hR, hR, fun c hc => ?_, by simp, by show 1 ≤ n + 1; omega, fun c hc => ?_⟩
  · cases List.mem_singleton.mp hc
    exact ⟨bfresh hS hq, hq, Ne.symm Rq, [], by rw [upd_ne (Ne.symm Rq)]; exact upd_same, .nil⟩
  · cases List.mem_singleton.mp hc
    exact Nat.zero_le _
theorem m_sg {σ : L2.St} {Q : VK} (k : KI K a B0 H0 r R l n cs B H) (hl : l.length ≤ 100000) (q : Q (.str (cS (l[n]?).toList)) H) : ∃ a' dx fs, V.ref r = .ref a' ∧ H a' = some (.ins (He.ga K "Reader") dx fs) ∧ fs.lookup ("sign" : Str) = none ∧ tNil σ H fun vs H2 => spSign K (V.ref r :: (vs ++ [])) H2 Q E0 := by
  obtain ⟨dx, o⟩ := k.rd
  refine ⟨r, dx, _, rfl, o.2, rfl, ?_⟩
  refine i_nil ?_
  refine ⟨B, r, l, n, rfl, k.rd, hl, ?_⟩
  rw [take1]
  exact q
theorem m_need {σ : L2.St} {Q : VK} {z : Str} (k : KI K a B0 H0 r R l n cs B H) (hl : l.length ≤ 100000) {w t : List Nat} (ez : z = cS w) (hw : l.drop n = w ++ t) (q : ∀ B' H', KI K a B0 H0 r R l (n + w.length) cs B' H' → Q .non H') : ∃ a' dx fs, V.ref r = .ref a' ∧ H a' = some (.ins (He.ga K "Reader") dx fs) ∧ fs.lookup ("need" : Str) = none ∧ tCons (tC (V.str z)) tNil σ H fun vs H2 => spGo K (V.ref r :: (vs ++ [])) H2 Q E0 := by
  obtain ⟨dx, o⟩ := k.rd
  refine ⟨r, dx, _, rfl, o.2, rfl, ?_⟩
  refine i_cons (i_c (i_nil ?_))
  exact ⟨B, r, l, n, w, by rw [ez]; rfl, k.st.bh, k.rd, hl, ⟨t, hw⟩, fun B' H' g rd => q B' H' (k.goOn g rd (by omega))⟩
theorem m_letter {σ : L2.St} {Q : VK} (k : KI K a B0 H0 r R l n cs B H) (hl : l.length ≤ 100000) {i : Int} (h0 : 0 ≤ i) (h1 : i ≤ 25) {t : List Nat} (hw : l.drop n = (97 + i.toNat) :: t) (q : ∀ B' H', KI K a B0 H0 r R l (n + 1) cs B' H' → Q (.int i) H') : ∃ a' dx fs, V.ref r = .ref a' ∧ H a' = some (.ins (He.ga K "Reader") dx fs) ∧ fs.lookup ("letter" : Str) = none ∧ tNil σ H fun vs H2 => spLetter K (V.ref r :: (vs ++ [])) H2 Q E0 := by
  obtain ⟨dx, o⟩ := k.rd
  refine ⟨r, dx, _, rfl, o.2, rfl, ?_⟩
  refine i_nil ?_
  refine ⟨B, r, l, n, 97 + i.toNat, rfl, k.st.bh, k.rd, hl, (at_cons hw).1, ?_, fun B' H' g rd => ?_⟩
  · unfold smallC
    rw [decide_eq_true (by omega), decide_eq_true (by omega)]
    rfl
  · rw [show ((97 + i.toNat - 97 : Nat) : Int) = i by omega]
    exact q B' H' (k.goOn g rd (by omega))
end
def spKindIn (K : PySem.W.Frag) : Sp := fun vs H Q _ => ∃ (a : Addr) (B : Hp) (r : Addr) (l : List Nat) (n : Nat) (k : Kd) (t : List Nat), vs = [.ref r] ∧ Same B H ∧ HandOk B H a ∧ Rd K B H r l n ∧ l.length ≤ 100000 ∧ l.drop n = ktx k ++ t ∧ t.head? ≠ some 32 ∧ k.good ∧
  ∀ B' H' v, Stp (Wra r a) B H B' H' → HandOk B' H' a → Rd K B' H' r l (n + (ktx k).length) → Emb K a B' k.d v → Q v H'

end K10
set_option maxRecDepth 100000
set_option maxHeartbeats 2000000
namespace K10
open PySem PySem.Spec PyProof.Rows L2 Us Dl
theorem ktx_pos (k : Kd) : 0 < (ktx k).length := by
  cases k with
  | lt i => exact Nat.zero_lt_one
  | pr l r => rw [ktx_pr]; simp; omega
theorem le_app {l : List Nat} {n : Nat} {w t : List Nat} (h : l.drop n = w ++ t) (hw : 0 < w.length) : n + w.length + t.length = l.length := by
  have := congrArg List.length h
  rw [List.length_drop, List.length_append] at this
  omega
theorem res_ne {k : Kd} {q : Addr} {row : List Kd} {i : Int} {d : Ce × Kd} {r : List (Ce × Kd)} (h : Res k (((q, row), .lt i) :: d :: r)) : 0 < row.length := by
  rw [res_cons] at h
  cases row with
  | nil => cases h.1
  | cons a b => exact Nat.zero_lt_succ _
theorem ktx_cases {x : Kd} (h : x.good) : (∃ u1 u2 y, x = .pr (.pr u1 u2) y) ∨ (∃ (i : Int) (s : List Nat), 0 ≤ i ∧ i ≤ 25 ∧ ktx x = (97 + i.toNat) :: s ∧ ((x = .lt i ∧ s = []) ∨ ∃ y, x = .pr (.lt i) y ∧ y.good ∧ s = 32 :: 62 :: 32 :: ktx y)) := by
  cases x with
  | lt i => exact .inr ⟨i, [], h.1, h.2, rfl, .inl ⟨rfl, rfl⟩⟩
  | pr l y =>
    cases l with
    | lt i => exact .inr ⟨i, _, h.1.1, h.1.2, rfl, .inr ⟨y, rfl, h.2, rfl⟩⟩
    | pr a b => exact .inl ⟨a, b, y, rfl⟩
section
variable {P : Program} {w : World} {K : PySem.W.Frag} {mg : Str → Option Value} {base : Heap}
theorem ok_kind_in (T : Txt K mg) {fs fn fl : FuncData} (Gsign : FnOk P w K mg base CX0 1 (He.ma K (He.ga K "Reader") "sign") fs p_Reader_sign (spSign K)) (bsign : L2.Binds K fs p_Reader_sign []) (Gneed : FnOk P w K mg base CX0 2 (He.ma K (He.ga K "Reader") "need") fn p_Reader_need (spGo K)) (bneed : L2.Binds K fn p_Reader_need [])
    (Gletter : FnOk P w K mg base CX0 3 (He.ma K (He.ga K "Reader") "letter") fl p_Reader_letter (spLetter K)) (bletter : L2.Binds K fl p_Reader_letter []) (Djoined_kind : DefOk P w K mg base CX0 1 "joined_kind" p_joined_kind (toSp K dJoined)) : DefOk P w K mg base CX0 4 "kind_in" p_kind_in (spKindIn K) := by
  refine T.d_kind_in.ok sc_kind_in (fun _ _ _ _ _ _ us hl => match us, hl with | [_], _ => rfl) (fun vs H Q E h => ?_) (fun f cdv A outer s H vs Q E hr h => ?_)
  · obtain ⟨a, B, r, l, n, k, t, rfl, _⟩ := h
    rfl
  · obtain ⟨a, B, r, l, n, kd, t, rfl, hS, hA, R0, hl, htx, ht, kg, kk⟩ := h
    refine ⟨_, PSs.nox (pss_cons (ps_set (i := 1) sc_kind_in.nd rfl (Or.inl rfl) (pe_lst (pa_cons (pe_lst pa_nil) pa_nil)))
    (pss_cons (ps_while PassesOwn.never (pt_cmpR op_gt (pe_callB call_lenU (by rfl) T.f_len (by decide +kernel) (pa_cons (pv 1) pa_nil)) pe_int (nomark _))
      (pss_cons (ps_while PassesOwn.never (pt_cmpR op_eq (pe_meth0 (pv 0) T.x_Reader T.me_sign Gsign (hr.mono (by first | decide | omega)) bsign .nil pass0) pe_str (nomark _))
        (pss_cons (ps_expr (pe_meth (pv 0) T.x_Reader T.me_need Gneed (hr.mono (by first | decide | omega)) bneed .nil pass0 (pa_cons pe_str pa_nil)))
        (pss_one (ps_expr (pe_bm PySem.F.plainAttrs_list PySem.F.slot_list_append PySem.F.type_list_append mt_append (pv 1) (pa_cons (pe_lst pa_nil) pa_nil))))))
      (pss_cons (ps_expr (pe_bm PySem.F.plainAttrs_list PySem.F.slot_list_append PySem.F.type_list_append mt_append (pe_ix ix_list (pv 1) (pe_un un_neg pe_int) (fun _ _ => rfl)) (pa_cons (pe_meth0 (pv 0) T.x_Reader T.me_letter Gletter (hr.mono (by first | decide | omega)) bletter .nil pass0) pa_nil)))
      (pss_cons (ps_if (PW.pt (pw_and (pt_cmpR op_ne (pe_meth0 (pv 0) T.x_Reader T.me_sign Gsign (hr.mono (by first | decide | omega)) bsign .nil pass0) pe_str (nomark _)) (pw_and (pt_cmpR op_gt (pe_callB call_lenU (by rfl) T.f_len (by decide +kernel) (pa_cons (pv 1) pa_nil)) pe_int (nomark _)) (pw_and1 (pt_cmpR op_gt (pe_callB call_lenU (by rfl) T.f_len (by decide +kernel) (pa_cons (pe_ix ix_list (pv 1) (pe_un un_neg pe_int) (fun _ _ => rfl)) pa_nil)) pe_int (nomark _))))))
        (pss_cons (ps_expr (pe_meth (pv 0) T.x_Reader T.me_need Gneed (hr.mono (by first | decide | omega)) bneed .nil pass0 (pa_cons pe_str pa_nil)))
        (pss_cons (ps_set (i := 2) sc_kind_in.nd rfl (Or.inl rfl) (pe_callD Djoined_kind (hr.mono (by first | decide | omega)) rfl pass0 (pa_cons (pe_bm0 PySem.F.plainAttrs_list PySem.F.slot_list_pop PySem.F.type_list_pop mt_pop (pv 1)) pa_nil)))
        (pss_one (ps_expr (pe_bm PySem.F.plainAttrs_list PySem.F.slot_list_append PySem.F.type_list_append mt_append (pe_ix ix_list (pv 1) (pe_un un_neg pe_int) (fun _ _ => rfl)) (pa_cons (pv 2) pa_nil))))))
        (pss_one (ps_if (PW.pt (pw_and (pt_cmpR op_ne (pe_meth0 (pv 0) T.x_Reader T.me_sign Gsign (hr.mono (by first | decide | omega)) bsign .nil pass0) pe_str (nomark _)) (pw_and1 (pt_cmpR op_eq (pe_callB call_lenU (by rfl) T.f_len (by decide +kernel) (pa_cons (pv 1) pa_nil)) pe_int (nomark _)))))
          (pss_one (ps_ret (pe_callD Djoined_kind (hr.mono (by first | decide | omega)) rfl pass0 (pa_cons (pe_ix ix_list (pv 1) pe_int (fun _ _ => rfl)) pa_nil))))
          pss_nil)))
      (pss_one (ps_expr (pe_meth (pv 0) T.x_Reader T.me_need Gneed (hr.mono (by first | decide | omega)) bneed .nil pass0 (pa_cons pe_str pa_nil))))))))
    (pss_one (ps_ret pe_non)))), ?_⟩
    have len1 : (n + (ktx kd).length) + t.length = l.length := by
      have := congrArg List.length htx
      rw [List.length_drop, List.length_append] at this
      have := ktx_pos kd
      omega
    walk_at "go"
    refine ⟨sz5 (by simp), fun q hq => ?_⟩
    walk_at "go"
    refine ⟨sz5 (by simp), fun R hR => ?_⟩
    walk_at "go"
    refine i_while (fun m σ H' => ∃ (B' : Hp) (n' : Nat) (c : Ce) (x : Kd) (fr : List (Ce × Kd)) (v2 : Option V), m + n' = l.length ∧ σ = [some (.ref r), some (.ref R), v2] ∧ KI K a B H r R l n' (c :: fr.map (·.1)) B' H' ∧ l.drop n' = ktx x ++ (tlt fr ++ t) ∧ Res kd ((c, x) :: fr) ∧ x.good ∧ (∀ y ∈ fr, y.2.good)) (l.length - n)
      ⟨B, n, (q, []), kd, [], none, by omega, rfl, KI.init hS hA R0 hq hR, by rw [htx]; rfl, by rw [res_one]; rfl, kg, fun _ h => nomatch h⟩ ?_
    rintro m σ H1 ⟨B1, n1, c, x, fr, v2, hm, rfl, k1, tx, rs, xg, fg⟩
    walk_at "go"
    refine i_lenL (SqL.of k1.hR) ?_
    rw [rowsV_len]
    walk_at "go"
    rw [decide_eq_true (show (0 : Int) < ((c :: fr.map (·.1)).length : Nat) by rw [List.length_cons]; omega)]
    walk_at "go"
    refine i_turn ?_
    walk_at "go"
    refine i_while (fun m' σ H' => ∃ (B' : Hp) (n' : Nat) (c : Ce) (x : Kd) (fr : List (Ce × Kd)), m' + n' = l.length ∧ n1 ≤ n' ∧ σ = [some (.ref r), some (.ref R), v2] ∧ KI K a B H r R l n' (c :: fr.map (·.1)) B' H' ∧ l.drop n' = ktx x ++ (tlt fr ++ t) ∧ Res kd ((c, x) :: fr) ∧ x.good ∧ (∀ y ∈ fr, y.2.good)) m
      ⟨B1, n1, c, x, fr, hm, Nat.le_refl _, rfl, k1, tx, rs, xg, fg⟩ ?_
    clear k1 tx rs xg fg c x fr
    rintro m2 σ H2 ⟨B2, n2, c, x, fr, hm2, hn2, rfl, k2, tx, rs, xg, fg⟩
    walk_at "go"
    refine m_sg k2 hl ?_
    walk_at "go"
    rw [sgO]
    rcases ktx_cases xg with ⟨u1, u2, y, rfl⟩ | ⟨i, s, i0, i1, es, hx⟩
    · have tx2 : l.drop n2 = 40 :: (ktx (.pr u1 u2) ++ (41 :: 32 :: 62 :: 32 :: (ktx y ++ tlt fr) ++ t)) := by
        rw [tx, ktx_pr]
        simp [kin, isPr]
      rw [(at_cons tx2).1, decide_eq_true rfl]
      walk_at "go"
      refine i_turn ?_
      walk_at "go"
      refine m_need k2 hl (w := [40]) (by decide +kernel) tx2 fun B3 H3 k3 => ?_
      walk_at "go"
      refine ⟨tyL k3.hR, ?_⟩
      walk_at "go"
      refine ⟨sz5 (by simp), fun q3 hq3 => ?_⟩
      walk_at "go"
      have hR3 : upd H3 q3 (.lst []) R = some (.lst (rowsV (c :: fr.map (·.1)))) := by rw [upd_ne (ne_of_none k3.hR hq3)]; exact k3.hR
      have lt3 := (at_cons tx2).2.2
      refine i_app hR3 (sz5' (by rw [rowsV_len]; have := k3.le.1; rw [List.length_singleton] at this; omega)) ?_
      walk_at "go"
      refine ⟨m2 - 1, by omega, B3, n2 + 1, (q3, []), .pr u1 u2, (c, y) :: fr, by omega, by omega, rfl, k3.push hq3 (by have := k2.le.1; exact this), ?_, ?_, xg.1, ?_⟩
      · rw [(at_cons tx2).2.1]
        simp [tlt]
      · rw [res_cons]
        refine ⟨rfl, res_congr ?_ rs⟩
        rw [bld_app]
        rfl
      · intro z hz
        rcases List.mem_cons.mp hz with rfl | hz
        · exact xg.2
        · exact fg z hz
    · have tx2 : l.drop n2 = (97 + i.toNat) :: (s ++ (tlt fr ++ t)) := by rw [tx, es]; rfl
      rw [(at_cons tx2).1, decide_eq_false (fun z => by injection z with z; omega)]
      walk_at "go"
      obtain ⟨q2, row⟩ := c
      refine i_ixL (SqL.of k2.hR) (by rw [rowsV_cons]; exact atV_last _ _) ?_
      obtain ⟨bq, oq, nq, us2, hq2, eq2⟩ := k2.ce _ (List.mem_cons_self ..)
      dsimp only at bq oq nq hq2 eq2
      walk_at "go"
      refine ⟨tyL hq2, ?_⟩
      walk_at "go"
      refine m_letter k2 hl i0 i1 tx2 fun B3 H3 k3 => ?_
      obtain ⟨bq3, oq3, nq3, us3, hq3, eq3⟩ := k3.ce _ (List.mem_cons_self ..)
      dsimp only at bq3 oq3 nq3 hq3 eq3
      have rl : row.length ≤ n2 := k2.le.2 _ (List.mem_cons_self ..)
      have lt2 := (at_cons tx2).2.2
      walk_at "go"
      refine i_app hq3 (sz5' (by rw [eq3.length, List.length_map]; omega)) ?_
      have k4 := k3.app (x := .lt i) emb_int hq3 (by omega)
      have tx3 := (at_cons tx2).2.1
      walk_at "go"
      refine m_sg k4 hl ?_
      walk_at "go"
      rw [sgS]
      rcases hx with ⟨rfl, rfl⟩ | ⟨y, rfl, yg, rfl⟩
      · cases fr with
        | nil =>
          have e3 : l[n2 + 1]? = t.head? := by
            have : l.drop (n2 + 1) = t := tx3
            rw [← this]; simp
          rw [e3, decide_eq_false ht]
          walk_at "go"
          refine i_lenL (SqL.of k4.hR) ?_
          rw [rowsV_len]
          walk_at "go"
          rw [decide_eq_false (show ¬ (1 : Int) < (((q2, row ++ [Kd.lt i]) :: List.map (fun x : Ce × Kd => x.1) []).length : Nat) by rw [List.map_nil, List.length_singleton]; decide)]
          walk_at "go"
          refine m_sg k4 hl ?_
          walk_at "go"
          rw [sgS, e3, decide_eq_false ht]
          walk_at "go"
          refine i_lenL (SqL.of k4.hR) ?_
          rw [rowsV_len]
          walk_at "go"
          rw [decide_eq_true (show V.int (((q2, row ++ [Kd.lt i]) :: List.map (fun x : Ce × Kd => x.1) []).length : Nat) = V.int 1 from rfl)]
          walk_at "go"
          refine i_ixL (SqL.of k4.hR) (v := .ref q2) (by rw [List.map_nil]; rfl) ?_
          have e6 : n2 + 1 = n + (ktx kd).length := by
            have : l.drop (n2 + 1) = t := tx3
            have := congrArg List.length this
            rw [List.length_drop] at this
            omega
          obtain ⟨f1, f2, f3, f4⟩ := k4.fin (us := us3 ++ [V.int i]) upd_same
          rw [res_one] at rs
          walk_at "go"
          refine ⟨a, _, _, fun d => d = kd.d, fun _ => False, f1.bh, f2, f4, ⟨row, .lt i, rfl, by omega, by rw [rs]⟩, fun d pd B6 H6 v g hh em => ?_, fun _ z => z.elim⟩
          subst pd
          have ne := Rd.hne f2 f3
          obtain ⟨dx, o⟩ := f3
          exact kk B6 H6 v (f1.trans (g.mono fun _ _ w => .inr w)) hh (by rw [← e6]; exact ⟨dx, (g.old _ ne (by rw [o.2]; exact fun z => nomatch z)).trans o.1, g.keep _ _ ne o.2⟩) em
        | cons d fr =>
          obtain ⟨d, y⟩ := d
          have rne := res_ne rs
          have tx4 : l.drop (n2 + 1) = 41 :: (32 :: 62 :: 32 :: (ktx y ++ tlt fr) ++ t) := tx3
          rw [(at_cons tx4).1, decide_eq_false (show ¬ some 41 = some 32 by decide)]
          walk_at "go"
          refine i_lenL (SqL.of k4.hR) ?_
          rw [rowsV_len]
          walk_at "go"
          rw [decide_eq_true (show (1 : Int) < (((q2, row ++ [Kd.lt i]) :: List.map (fun x : Ce × Kd => x.1) ((d, y) :: fr)).length : Nat) by rw [List.map_cons, List.length_cons, List.length_cons]; omega)]
          walk_at "go"
          refine i_ixL (SqL.of k4.hR) (by rw [rowsV_cons]; exact atV_last _ _) ?_
          walk_at "go"
          refine i_lenL (SqL.of upd_same) ?_
          walk_at "go"
          rw [decide_eq_true (show (1 : Int) < ((us3 ++ [V.int i]).length : Nat) by rw [List.length_append, eq3.length, List.length_map, List.length_singleton]; omega)]
          walk_at "go"
          refine m_need k4 hl (w := [41]) (by decide +kernel) tx4 fun B5 H5 k5 => ?_
          obtain ⟨bq5, oq5, nq5, us5, hq5, eq5⟩ := k5.ce _ (List.mem_cons_self ..)
          dsimp only at bq5 oq5 nq5 hq5 eq5
          rw [List.length_singleton] at k5
          have e5 := (at_cons tx4).2.1
          have lt4 := (at_cons tx4).2.2
          walk_at "go"
          refine i_pop k5.hR (y := .ref q2) (by rw [rowsV_cons, List.length_append, List.length_singleton]; exact List.getElem?_concat_length) ?_
          obtain ⟨k6, em6⟩ := k5.pop hq5
          rw [show (rowsV ((q2, row ++ [Kd.lt i]) :: List.map (fun x : Ce × Kd => x.1) ((d, y) :: fr))).dropLast = rowsV (List.map (fun x : Ce × Kd => x.1) ((d, y) :: fr)) by rw [rowsV_cons, List.dropLast_concat]]
          walk_at "go"
          refine ⟨a, _, _, fun z => z = (bld row (.lt i)).d, fun _ => False, k6.st.bh, k6.hand, em6, ⟨row, .lt i, rfl, by omega, rfl⟩, fun z pd B7 H7 v g hh em => ?_, fun _ z => z.elim⟩
          subst pd
          have k7 := k6.goA g hh
          obtain ⟨q7, row7⟩ := d
          obtain ⟨bq7, oq7, nq7, us7, hq7, eq7⟩ := k7.ce _ (List.mem_cons_self ..)
          dsimp only at bq7 oq7 nq7 hq7 eq7
          have rl7 : row7.length ≤ n2 := k2.le.2 (q7, row7) (List.mem_cons_of_mem _ (List.mem_cons_self ..))
          walk_at "go"
          refine i_ixL (SqL.of k7.hR) (by rw [List.map_cons, rowsV_cons]; exact atV_last _ _) ?_
          walk_at "go"
          refine ⟨tyL hq7, ?_⟩
          walk_at "go"
          refine i_app hq7 (sz5' (by rw [eq7.length, List.length_map]; omega)) ?_
          have k8 := k7.app em hq7 (by omega)
          walk_at "go"
          refine m_need k8 hl (w := [32, 62, 32]) (by decide +kernel) e5 fun B9 H9 k9 => ?_
          have le4 := le_app (w := [32, 62, 32]) e5 (by decide)
          have e6 := at_app (w := [32, 62, 32]) e5
          rw [List.length_cons, List.length_cons, List.length_singleton] at le4
          walk_at "go"
          rw [res_cons] at rs
          exact ⟨l.length - (n2 + 1 + 1 + 3), by omega, B9, n2 + 1 + 1 + 3, _, y, fr, _, by omega, rfl, k9, by rw [← List.append_assoc]; exact e6, rs.2, fg (_, y) (List.mem_cons_self ..), fun z hz => fg z (List.mem_cons_of_mem _ hz)⟩
      · have tx4 : l.drop (n2 + 1) = 32 :: 62 :: 32 :: (ktx y ++ (tlt fr ++ t)) := by rw [tx3]; simp
        rw [(at_cons tx4).1, decide_eq_true rfl]
        walk_at "go"
        refine m_sg k4 hl ?_
        walk_at "go"
        rw [sgS, (at_cons tx4).1, decide_eq_true rfl]
        walk_at "go"
        refine m_need k4 hl (w := [32, 62, 32]) (by decide +kernel) tx4 fun B5 H5 k5 => ?_
        have le4 := le_app (w := [32, 62, 32]) tx4 (by decide)
        have e5 := at_app (w := [32, 62, 32]) tx4
        rw [List.length_cons, List.length_cons, List.length_singleton] at le4
        walk_at "go"
        exact ⟨l.length - (n2 + 1 + 3), by omega, B5, n2 + 1 + 3, (q2, row ++ [.lt i]), y, fr, v2, by omega, rfl, k5, e5, res_congr (by rw [bld_app]) rs, yg, fg⟩
end

end K10
set_option maxRecDepth 100000
set_option maxHeartbeats 2000000
namespace K10
open PySem PySem.Spec PyProof.Rows L2 Us Dl
def dWholeK : DSp := fun ds P _ => ∃ k : Kd, ds = [.str (cS (ktx k))] ∧ k.good ∧ (ktx k).length ≤ 100000 ∧ P k.d
def dReadK : DSp := fun ds P _ => ∃ k : Kd, ds = [.str (cS (ktx k))] ∧ k.gk ∧ P k.d
theorem new_reader {K : PySem.W.Frag} {B H : Hp} {x dx : Addr} (hS : Same B H) (hx : H x = none) (hdx : H dx = none) (hne : dx ≠ x) : Gr [] B H B (upd (upd H dx (.own x)) x (.ins (RC K) dx [])) ∧ Own B (upd (upd H dx (.own x)) x (.ins (RC K) dx [])) x (.ins (RC K) dx []) := by
  have s1 : Gr [] B H B (upd H dx (.own x)) := Gr.cell hS hdx
  have hx1 : upd H dx (.own x) x = none := by rw [upd_ne (Ne.symm hne)]; exact hx
  exact ⟨s1.trans (Gr.cell (o := .ins (RC K) dx []) s1.bh hx1), Own.cell (o := .ins (RC K) dx []) s1.bh hx1⟩
section
variable {P : Program} {w : World} {K : PySem.W.Frag} {mg : Str → Option Value} {base : Heap}
theorem ok_whole_kind (T : Txt K mg) {fi ff : FuncData} (GReader : FnOk P w K mg base CX0 1 (He.ma K (He.ga K "Reader") "__init__") fi p_Reader__init (spNewR K)) (bReader : L2.Binds K fi p_Reader__init [])
    (Gfinish : FnOk P w K mg base CX0 2 (He.ma K (He.ga K "Reader") "finish") ff p_Reader_finish (spFinish K)) (bfinish : L2.Binds K ff p_Reader_finish []) (Dkind_in : DefOk P w K mg base CX0 4 "kind_in" p_kind_in (spKindIn K)) : DefOk P w K mg base CX0 5 "whole_kind" p_whole_kind (toSp K dWholeK) := by
  refine T.d_whole_kind.ok sc_whole_kind (fun _ _ _ _ _ _ us hl => match us, hl with | [_], _ => rfl) (fun vs H Q E h => ?_) (fun f cdv A outer s H vs Q E hr h => ?_)
  · obtain ⟨a, B, ds, P', X', hS, hA, em, ⟨k, rfl, _⟩, _⟩ := h
    obtain ⟨u, us, rfl, _, e2⟩ := em.uncons
    cases e2.of_nil
    rfl
  · obtain ⟨a, B, ds, P', X', hS, hA, em, ⟨k, rfl, kg, kl, pk⟩, hq, _⟩ := h
    obtain ⟨u, us, rfl, e1, e2⟩ := em.uncons
    cases e2.of_nil
    cases Emb.str e1
    refine ⟨_, PSs.nox (pss_cons (ps_set (i := 1) sc_whole_kind.nd rfl (Or.inl rfl) (pe_make T.mk_Reader GReader (hr.mono (by first | decide | omega)) rfl T.g_Reader bReader .nil pass0 (pa_cons (pv 0) pa_nil)))
    (pss_cons (ps_set (i := 2) sc_whole_kind.nd rfl (Or.inl rfl) (pe_callD Dkind_in (hr.mono (by first | decide | omega)) rfl pass0 (pa_cons (pv 1) pa_nil)))
    (pss_cons (ps_expr (pe_meth0 (pv 1) T.x_Reader T.me_finish Gfinish (hr.mono (by first | decide | omega)) bfinish .nil pass0))
    (pss_one (ps_ret (pv 2)))))), ?_⟩
    walk_at "go"
    intro x dx hx hdx hne
    obtain ⟨g2, o2⟩ := new_reader (K := K) hS hx hdx hne
    refine ⟨B, x, dx, ktx k, rfl, g2.bh, o2, fun B1 H1 g3 rd => ⟨rfl, ?_⟩⟩
    have g4 : Gr [] B H B1 H1 := g2.trans' g3 fun q hq => .inr (by rw [List.mem_singleton.mp hq]; exact hx)
    have hA1 := hA.mono (Stp.of_gr0 g4) id
    walk_at "go"
    refine ⟨a, B1, x, ktx k, 0, k, [], rfl, g4.bh, hA1, rd, kl, by simp, by simp, kg, fun B2 H2 v g5 hh rd2 em2 => ?_⟩
    obtain ⟨dx2, o5⟩ := id rd2
    walk_at "go"
    refine ⟨x, dx2, _, rfl, o5.2, rfl, ?_⟩
    walk_at "go"
    refine ⟨B2, x, ktx k, 0 + (ktx k).length, rfl, rd2, kl, by simp, ?_⟩
    walk_at "go"
    exact hq _ pk B2 H2 v ((((Stp.of_gr0 g4).up.trans (g5.mono fun b _ w => w.symm)) : Stp (fun b => Isa a b ∨ b = x) B H B2 H2).unsee hx) hh em2
theorem ktx_len : ∀ (k : Kd), (ktx k).length ≤ 8 * k.size
  | .lt i => by show 1 ≤ 8 * 1; omega
  | .pr l r => by
    have h1 := ktx_len l
    have h2 := ktx_len r
    have h3 : (kin l).length ≤ (ktx l).length + 2 := by unfold kin; split <;> simp
    rw [ktx_pr]
    simp only [List.length_append, List.length_cons, List.length_nil]
    show _ ≤ 8 * (l.size + r.size + 1)
    omega
theorem ok_read_kind (T : Txt K mg) (Dwhole_kind : DefOk P w K mg base CX0 5 "whole_kind" p_whole_kind (toSp K dWholeK)) (Dis_kind_there : DefOk P w K mg base CX0 3 "is_kind_there" p_is_kind_there (toSp K dKindThere)) : DefOk P w K mg base (L2.CX P w) 6 "read_kind" p_read_kind (toSp K dReadK) := by
  refine T.d_read_kind.dlX sc_read_kind (fun _ _ _ _ _ _ us hl => match us, hl with | [_], _ => rfl) (fun ds Q E ⟨k, h, _⟩ => by rw [h]; rfl) (fun fa cdv A outer s H E hr => ⟨_, _, (dss_cons (ds_set (i := 1) sc_read_kind.nd rfl (Or.inl rfl) (de_call0 Dwhole_kind (hr.mono (by first | decide | omega)) (da_cons (dv 0) da_nil)))
    (dss_cons (ds_if (dt_not (dt_val (de_call0 Dis_kind_there (hr.mono (by first | decide | omega)) (da_cons (dv 1) da_nil))))
      (dss_one (ds_raise0 rfl rfl (takes_of rfl rfl rfl rfl) T.x_NoKind))
      dss_nil)
    (dss_one (ds_ret (dv 1))))), fun ds Q E h => ?_⟩)
  obtain ⟨k, rfl, kg, q⟩ := h
  walk_at "d"
  refine ⟨k, rfl, kg.1, by have := ktx_len k; have := kg.2.2; omega, ?_⟩
  walk_at "d"
  refine ⟨k, rfl, kg, ?_⟩
  walk_at "r"
  walk_at "d"
  exact q
end

end K10
set_option maxRecDepth 100000
set_option maxHeartbeats 2000000
namespace K10
open PySem PySem.Spec PyProof.Rows L2 Us Dl
inductive Pd where
  | cl
  | sp (x : Dl.Tm)
def Pd.s : Pd → Str
  | .cl => ")"
  | .sp _ => " "
def ptl : List Pd → List Nat
  | [] => []
  | .cl :: r => 41 :: ptl r
  | .sp x :: r => 32 :: (ptx x ++ 41 :: ptl r)
def pwl : List Pd → List Wd
  | [] => []
  | .cl :: r => pwl r
  | .sp x :: r => x.flat ++ pwl r
def pgd : List Pd → Prop
  | [] => True
  | .cl :: r => pgd r
  | .sp x :: r => x.gud ∧ pgd r
theorem isNm_parts {z : Str} (h : isNm z = true) : 0 < z.cps.toList.length ∧ z.cps.toList.length ≤ 8 ∧ ∀ c ∈ z.cps.toList, smallC c = true := by
  unfold isNm at h
  obtain ⟨h1, h3⟩ := Bool.and_eq_true_iff.mp h
  obtain ⟨h1, h2⟩ := Bool.and_eq_true_iff.mp h1
  have e : z.cps.toList.length = z.length := by show _ = z.cps.size; simp
  exact ⟨by have := of_decide_eq_true h1; omega, by have := of_decide_eq_true h2; omega, fun c hc => by rw [← in_small]; exact decide_eq_true (List.contains_iff_mem.mp (List.all_eq_true.mp h3 c hc))⟩
theorem sgB (o : Option Nat) : decide (V.str (cS o.toList) = V.str (Str.ofString "[")) = decide (o = some 91) := by
  rw [show Str.ofString "[" = cS [91] by decide +kernel]
  by_cases h : o = some 91
  · rw [h]; rfl
  · rw [decide_eq_false h, decide_eq_false fun z => h ?_]
    injection z with z
    have := cS_inj z
    cases o with
    | none => cases this
    | some c => cases this; rfl
def pdV (st : List Pd) : List V := st.reverse.map fun c => V.str c.s
theorem pdV_cons (c : Pd) (cs : List Pd) : pdV (c :: cs) = pdV cs ++ [.str c.s] := by unfold pdV; simp
theorem pdV_len (cs : List Pd) : (pdV cs).length = cs.length := by unfold pdV; simp
structure PI (K : PySem.W.Frag) (a : Addr) (B0 H0 : Hp) (r F W : Addr) (l : List Nat) (n : Nat) (ws : List Wd) (st : List Pd) (B H : Hp) : Prop where
  hr : H0 r ≠ none
  ha : H0 a ≠ none
  sp : Stp (Wra r a) B0 H0 B H
  hand : HandOk B H a
  rd : Rd K B H r l n
  fo : ∃ us, H F = some (.lst us) ∧ EmbL K a B (ws.map Wd.d) us
  wa : H W = some (.lst (pdV st))
  bF : B F = none
  bW : B W = none
  oF : H0 F = none
  oW : H0 W = none
  ne : F ≠ W
  lf : ws.length ≤ n
  lw : st.length ≤ n
section
variable {K : PySem.W.Frag} {a : Addr} {B0 H0 B H B' H' : Hp} {r F W q : Addr} {l : List Nat} {n m : Nat} {ws : List Wd} {st st' : List Pd} {o : HO}
theorem PI.fresh (k : PI K a B0 H0 r F W l n ws st B H) (h : H0 q = none) : ¬ Wra r a q := fun z => z.elim (fun e => k.hr (e ▸ h)) fun e => k.ha (e ▸ h)
theorem PI.step (k : PI K a B0 H0 r F W l n ws st B H) (g : Stp (Wra r a) B H B' H') (hh : HandOk B' H' a) (rd : Rd K B' H' r l m) (hm : n ≤ m) : PI K a B0 H0 r F W l m ws st B' H' := by
  obtain ⟨us, hu, eu⟩ := k.fo
  exact ⟨k.hr, k.ha, k.sp.trans g, hh, rd, ⟨us, g.keep _ _ (k.fresh k.oF) hu, eu.mono g.bb⟩, g.keep _ _ (k.fresh k.oW) k.wa, (g.old _ (k.fresh k.oF) (by rw [hu]; exact fun z => nomatch z)).trans k.bF,
    (g.old _ (k.fresh k.oW) (by rw [k.wa]; exact fun z => nomatch z)).trans k.bW, k.oF, k.oW, k.ne, Nat.le_trans k.lf hm, Nat.le_trans k.lw hm⟩
theorem PI.goOn (k : PI K a B0 H0 r F W l n ws st B H) (g : Gr [r] B H B' H') (rd : Rd K B' H' r l m) (hm : n ≤ m) : PI K a B0 H0 r F W l m ws st B' H' :=
  k.step (Stp.of_grW g) (k.hand.mono (Stp.of_gr g) fun e => Rd.hne k.hand k.rd e.symm) rd hm
theorem PI.wr (k : PI K a B0 H0 r F W l n ws st B H) (h0 : H0 q = none) (hB : B q = none) : Stp (Wra r a) B0 H0 B (upd H q o) ∧ HandOk B (upd H q o) a ∧ Rd K B (upd H q o) r l n := by
  have s : Stp (Isa q) B H B (upd H q o) := Stp.set k.sp.bh hB rfl
  have nf := k.fresh h0
  refine ⟨((k.sp.mono (W' := fun b => Wra r a b ∨ b = q) fun b _ w => .inl w).trans (s.mono fun b _ w => .inr w)).unsee h0, k.hand.mono s fun e => nf (.inr e.symm), ?_⟩
  obtain ⟨dx, o1⟩ := k.rd
  exact ⟨dx, o1.1, s.keep _ _ (fun e => nf (.inl e.symm)) o1.2⟩
theorem PI.addF (k : PI K a B0 H0 r F W l n ws st B H) {x : Wd} {v : V} {us : List V} (em : Emb K a B x.d v) (hF : H F = some (.lst us)) (hl : ws.length < n) : PI K a B0 H0 r F W l n (ws ++ [x]) st B (upd H F (.lst (us ++ [v]))) := by
  obtain ⟨us', hu, eu⟩ := k.fo
  rw [hF] at hu
  cases hu
  obtain ⟨s1, s2, s3⟩ := k.wr (o := .lst (us ++ [v])) k.oF k.bF
  exact ⟨k.hr, k.ha, s1, s2, s3, ⟨_, upd_same, by rw [List.map_append]; exact eu.append (.cons em .nil)⟩, by rw [upd_ne (Ne.symm k.ne)]; exact k.wa, k.bF, k.bW, k.oF, k.oW, k.ne, by rw [List.length_append]; exact hl, k.lw⟩
theorem PI.setW (k : PI K a B0 H0 r F W l n ws st B H) (hl : st'.length ≤ n) {us : List V} (e : us = pdV st') : PI K a B0 H0 r F W l n ws st' B (upd H W (.lst us)) := by
  obtain ⟨us', hu, eu⟩ := k.fo
  obtain ⟨s1, s2, s3⟩ := k.wr (o := .lst us) k.oW k.bW
  exact ⟨k.hr, k.ha, s1, s2, s3, ⟨_, by rw [upd_ne k.ne]; exact hu, eu⟩, by rw [upd_same, e], k.bF, k.bW, k.oF, k.oW, k.ne, k.lf, hl⟩
theorem r_sg {σ : L2.St} {Q : VK} (k : Rd K B H r l n) (hl : l.length ≤ 100000) (q : Q (.str (cS (l[n]?).toList)) H) : ∃ a' dx fs, V.ref r = .ref a' ∧ H a' = some (.ins (He.ga K "Reader") dx fs) ∧ fs.lookup ("sign" : Str) = none ∧ tNil σ H fun vs H2 => spSign K (V.ref r :: (vs ++ [])) H2 Q E0 := by
  obtain ⟨dx, o⟩ := id k
  refine ⟨r, dx, _, rfl, o.2, rfl, i_nil ⟨B, r, l, n, rfl, k, hl, ?_⟩⟩
  rw [take1]
  exact q
theorem r_need {σ : L2.St} {Q : VK} {z : Str} (hS : Same B H) (k : Rd K B H r l n) (hl : l.length ≤ 100000) {w t : List Nat} (ez : z = cS w) (hw : l.drop n = w ++ t) (q : ∀ B' H', Gr [r] B H B' H' → Rd K B' H' r l (n + w.length) → Q .non H') : ∃ a' dx fs, V.ref r = .ref a' ∧ H a' = some (.ins (He.ga K "Reader") dx fs) ∧ fs.lookup ("need" : Str) = none ∧ tCons (tC (V.str z)) tNil σ H fun vs H2 => spGo K (V.ref r :: (vs ++ [])) H2 Q E0 := by
  obtain ⟨dx, o⟩ := id k
  refine ⟨r, dx, _, rfl, o.2, rfl, i_cons (i_c (i_nil ?_))⟩
  exact ⟨B, r, l, n, w, by rw [ez]; rfl, hS, k, hl, ⟨t, hw⟩, q⟩
theorem r_name {σ : L2.St} {Q : VK} {z : Str} (hS : Same B H) (k : Rd K B H r l n) (hl : l.length ≤ 100000) (hz : isNm z = true) {t : List Nat} (hw : l.drop n = z.cps.toList ++ t) (ht : (t.head?).any smallC = false) (q : ∀ B' H', Gr [r] B H B' H' → Rd K B' H' r l (n + z.cps.toList.length) → Q (.str z) H') : ∃ a' dx fs, V.ref r = .ref a' ∧ H a' = some (.ins (He.ga K "Reader") dx fs) ∧ fs.lookup ("name" : Str) = none ∧ tNil σ H fun vs H2 => spName K (V.ref r :: (vs ++ [])) H2 Q E0 := by
  obtain ⟨dx, o⟩ := id k
  obtain ⟨h1, h2, h3⟩ := isNm_parts hz
  refine ⟨r, dx, _, rfl, o.2, rfl, i_nil ⟨B, r, l, n, z.cps.toList, rfl, hS, k, hl, ⟨t, hw, ht⟩, h3, h1, h2, fun B' H' g rd => ?_⟩⟩
  rw [cS_cps]
  exact q B' H' g rd
end
theorem ptx_head (t : Dl.Tm) (h : t.gud) : (∃ f x, t = .ap f x) ∨ (∃ z k b, t = .la z k b) ∨ (∃ z c s, t = .nm z ∧ ptx t = c :: s ∧ c ≠ 40 ∧ c ≠ 91) := by
  cases t with
  | ap f x => exact .inl ⟨f, x, rfl⟩
  | la z k b => exact .inr (.inl ⟨z, k, b, rfl⟩)
  | nm z =>
    obtain ⟨h1, h2, h3⟩ := isNm_parts h
    cases e : z.cps.toList with
    | nil => rw [e] at h1; cases h1
    | cons c s =>
      refine .inr (.inr ⟨z, c, s, rfl, e, ?_⟩)
      have := h3 c (by rw [e]; exact List.mem_cons_self ..)
      unfold smallC at this
      have h1 := of_decide_eq_true (Bool.and_eq_true_iff.mp this).1
      have h2 := of_decide_eq_true (Bool.and_eq_true_iff.mp this).2
      exact ⟨by omega, by omega⟩
theorem ptl_head (st : List Pd) : ((ptl st).head?).any smallC = false := by
  cases st with
  | nil => rfl
  | cons c r => cases c <;> rfl
theorem PI.init {K : PySem.W.Frag} {a : Addr} {B H : Hp} {r F W : Addr} {l : List Nat} {n : Nat} (hS : Same B H) (hA : HandOk B H a) (rd : Rd K B H r l n) (hF : H F = none) (hW : upd H F (.lst []) W = none) : PI K a B H r F W l n [] [] B (upd (upd H F (.lst [])) W (.lst [])) := by
  have WF : W ≠ F := fun e => by rw [e, upd_same] at hW; cases hW
  rw [upd_ne WF] at hW
  have s1 : Stp No B H B (upd H F (.lst [])) := Stp.cell hS hF
  have s2 : Stp No B (upd H F (.lst [])) B (upd (upd H F (.lst [])) W (.lst [])) := Stp.cell s1.bh (by rw [upd_ne WF]; exact hW)
  have s := s1.trans s2
  obtain ⟨dx, o⟩ := id rd
  have hrr : H r ≠ none := by rw [o.2]; exact fun z => nomatch z
  exact ⟨hrr, hA.ne, s.up, hA.mono s id, ⟨dx, (s.old _ id hrr).trans o.1, s.keep _ _ id o.2⟩, ⟨[], by rw [upd_ne (Ne.symm WF)]; exact upd_same, .nil⟩, upd_same, bfresh hS hF, bfresh hS hW, hF, hW, Ne.symm WF, Nat.zero_le _, Nat.zero_le _⟩
def dWholeP : DSp := fun ds P _ => ∃ t : Dl.Tm, ds = [.str (cS (ptx t))] ∧ t.gud ∧ (ptx t).length ≤ 100000 ∧ P (.tup t.ds)
section
variable {P : Program} {w : World} {K : PySem.W.Frag} {mg : Str → Option Value} {base : Heap}
theorem ok_whole_program (T : Txt K mg) {fi ff fs fn fm : FuncData} (GReader : FnOk P w K mg base CX0 1 (He.ma K (He.ga K "Reader") "__init__") fi p_Reader__init (spNewR K)) (bReader : L2.Binds K fi p_Reader__init [])
    (Gfinish : FnOk P w K mg base CX0 2 (He.ma K (He.ga K "Reader") "finish") ff p_Reader_finish (spFinish K)) (bfinish : L2.Binds K ff p_Reader_finish []) (Gsign : FnOk P w K mg base CX0 1 (He.ma K (He.ga K "Reader") "sign") fs p_Reader_sign (spSign K)) (bsign : L2.Binds K fs p_Reader_sign []) (Gneed : FnOk P w K mg base CX0 2 (He.ma K (He.ga K "Reader") "need") fn p_Reader_need (spGo K)) (bneed : L2.Binds K fn p_Reader_need [])
    (Gname : FnOk P w K mg base CX0 3 (He.ma K (He.ga K "Reader") "name") fm p_Reader_name (spName K)) (bname : L2.Binds K fm p_Reader_name []) (Dkind_in : DefOk P w K mg base CX0 4 "kind_in" p_kind_in (spKindIn K)) : DefOk P w K mg base CX0 5 "whole_program" p_whole_program (toSp K dWholeP) := by
  refine T.d_whole_program.ok sc_whole_program (fun _ _ _ _ _ _ us hl => match us, hl with | [_], _ => rfl) (fun vs H Q E h => ?_) (fun f cdv A outer s H vs Q E hr h => ?_)
  · obtain ⟨a, B, ds, P', X', hS, hA, em, ⟨k, rfl, _⟩, _⟩ := h
    obtain ⟨u, us, rfl, _, e2⟩ := em.uncons
    cases e2.of_nil
    rfl
  · obtain ⟨a, B, ds, P', X', hS, hA, em, ⟨t, rfl, tg, tl, pt⟩, hq, _⟩ := h
    obtain ⟨u, us, rfl, e1, e2⟩ := em.uncons
    cases e2.of_nil
    cases Emb.str e1
    refine ⟨_, PSs.nox (pss_cons (ps_set (i := 1) sc_whole_program.nd rfl (Or.inl rfl) (pe_make T.mk_Reader GReader (hr.mono (by first | decide | omega)) rfl T.g_Reader bReader .nil pass0 (pa_cons (pv 0) pa_nil)))
    (pss_cons (ps_set (i := 2) sc_whole_program.nd rfl (Or.inl rfl) (pe_lst pa_nil))
    (pss_cons (ps_set (i := 3) sc_whole_program.nd rfl (Or.inl rfl) (pe_lst pa_nil))
    (pss_cons (ps_set (i := 4) sc_whole_program.nd rfl (Or.inl rfl) pe_bl)
    (pss_cons (ps_while PassesOwn.never (pt_val (pv 4))
      (pss_one (ps_if (pt_cmpR op_eq (pe_meth0 (pv 1) T.x_Reader T.me_sign Gsign (hr.mono (by first | decide | omega)) bsign .nil pass0) pe_str (nomark _))
        (pss_cons (ps_expr (pe_meth (pv 1) T.x_Reader T.me_need Gneed (hr.mono (by first | decide | omega)) bneed .nil pass0 (pa_cons pe_str pa_nil)))
        (pss_cons (ps_expr (pe_bm PySem.F.plainAttrs_list PySem.F.slot_list_append PySem.F.type_list_append mt_append (pv 2) (pa_cons (pe_globD T.c_USE) pa_nil)))
        (pss_one (ps_expr (pe_bm PySem.F.plainAttrs_list PySem.F.slot_list_append PySem.F.type_list_append mt_append (pv 3) (pa_cons pe_str pa_nil))))))
        (pss_one (ps_if (pt_cmpR op_eq (pe_meth0 (pv 1) T.x_Reader T.me_sign Gsign (hr.mono (by first | decide | omega)) bsign .nil pass0) pe_str (nomark _))
          (pss_cons (ps_expr (pe_meth (pv 1) T.x_Reader T.me_need Gneed (hr.mono (by first | decide | omega)) bneed .nil pass0 (pa_cons pe_str pa_nil)))
          (pss_cons (ps_set (i := 5) sc_whole_program.nd rfl (Or.inl rfl) (pe_meth0 (pv 1) T.x_Reader T.me_name Gname (hr.mono (by first | decide | omega)) bname .nil pass0))
          (pss_cons (ps_expr (pe_meth (pv 1) T.x_Reader T.me_need Gneed (hr.mono (by first | decide | omega)) bneed .nil pass0 (pa_cons pe_str pa_nil)))
          (pss_cons (ps_expr (pe_bm PySem.F.plainAttrs_list PySem.F.slot_list_append PySem.F.type_list_append mt_append (pv 2) (pa_cons (pe_tup (pa_cons (pv 5) (pa_cons (pe_callD Dkind_in (hr.mono (by first | decide | omega)) rfl pass0 (pa_cons (pv 1) pa_nil)) pa_nil))) pa_nil)))
          (pss_one (ps_expr (pe_meth (pv 1) T.x_Reader T.me_need Gneed (hr.mono (by first | decide | omega)) bneed .nil pass0 (pa_cons pe_str pa_nil))))))))
          (pss_cons (ps_expr (pe_bm PySem.F.plainAttrs_list PySem.F.slot_list_append PySem.F.type_list_append mt_append (pv 2) (pa_cons (pe_meth0 (pv 1) T.x_Reader T.me_name Gname (hr.mono (by first | decide | omega)) bname .nil pass0) pa_nil)))
          (pss_cons (ps_while PassesOwn.never (PW.pt (pw_and (pt_cmpR op_gt (pe_callB call_lenU (by rfl) T.f_len (by decide +kernel) (pa_cons (pv 3) pa_nil)) pe_int (nomark _)) (pw_and1 (pt_cmpR op_eq (pe_ix ix_list (pv 3) (pe_un un_neg pe_int) (fun _ _ => rfl)) pe_str (nomark _)))))
            (pss_one (ps_expr (pe_meth (pv 1) T.x_Reader T.me_need Gneed (hr.mono (by first | decide | omega)) bneed .nil pass0 (pa_cons (pe_bm0 PySem.F.plainAttrs_list PySem.F.slot_list_pop PySem.F.type_list_pop mt_pop (pv 3)) pa_nil)))))
          (pss_cons (ps_set (i := 4) sc_whole_program.nd rfl (Or.inl rfl) (pe_cmpR op_gt (pe_callB call_lenU (by rfl) T.f_len (by decide +kernel) (pa_cons (pv 3) pa_nil)) pe_int (nomark _)))
          (pss_one (ps_if (pt_val (pv 4))
            (pss_cons (ps_expr (pe_meth (pv 1) T.x_Reader T.me_need Gneed (hr.mono (by first | decide | omega)) bneed .nil pass0 (pa_cons (pe_bm0 PySem.F.plainAttrs_list PySem.F.slot_list_pop PySem.F.type_list_pop mt_pop (pv 3)) pa_nil)))
            (pss_one (ps_expr (pe_bm PySem.F.plainAttrs_list PySem.F.slot_list_append PySem.F.type_list_append mt_append (pv 3) (pa_cons pe_str pa_nil)))))
            pss_nil))))))))))
    (pss_cons (ps_expr (pe_meth0 (pv 1) T.x_Reader T.me_finish Gfinish (hr.mono (by first | decide | omega)) bfinish .nil pass0))
    (pss_one (ps_ret (pe_callTy call_tupU (by rfl) T.f_tuple (by decide +kernel) (pa_cons (pv 2) pa_nil)))))))))), ?_⟩
    walk_at "go"
    intro x dx hx hdx hne
    obtain ⟨g2, o2⟩ := new_reader (K := K) hS hx hdx hne
    refine ⟨B, x, dx, ptx t, rfl, g2.bh, o2, fun B1 H1 g3 rd => ⟨rfl, ?_⟩⟩
    have g4 : Gr [] B H B1 H1 := g2.trans' g3 fun q hq => .inr (by rw [List.mem_singleton.mp hq]; exact hx)
    have hA1 := hA.mono (Stp.of_gr0 g4) id
    walk_at "go"
    refine ⟨sz5 (by simp), fun F hF => ?_⟩
    walk_at "go"
    refine ⟨sz5 (by simp), fun Wt hW => ?_⟩
    walk_at "go"
    refine i_while (fun m σ H' => ∃ (B' : Hp) (n' : Nat) (ws : List Wd) (st : List Pd) (v5 : Option V), m + n' = (ptx t).length ∧ PI K a B1 H1 x F Wt (ptx t) n' ws st B' H' ∧
      ((∃ t0 : Dl.Tm, σ = [some (.str (cS (ptx t))), some (.ref x), some (.ref F), some (.ref Wt), some (.bl true), v5] ∧ (ptx t).drop n' = ptx t0 ++ ptl st ∧ t0.gud ∧ pgd st ∧ ws ++ (t0.flat ++ pwl st) = t.flat) ∨ (σ = [some (.str (cS (ptx t))), some (.ref x), some (.ref F), some (.ref Wt), some (.bl false), v5] ∧ m = 0 ∧ ws = t.flat))) (ptx t).length
      ⟨B1, 0, [], [], none, rfl, PI.init g4.bh hA1 rd hF hW, .inl ⟨t, rfl, by simp [ptl], tg, trivial, by simp [pwl]⟩⟩ ?_
    rintro m σ H2 ⟨B2, n2, ws, st, v5, hm, k2, ⟨t0, rfl, tx, t0g, sg, we⟩ | ⟨rfl, rfl, rfl⟩⟩
    · walk_at "go"
      refine i_turn ?_
      walk_at "go"
      refine r_sg k2.rd tl ?_
      walk_at "go"
      rw [sgO]
      rcases ptx_head t0 t0g with ⟨f, y, rfl⟩ | ⟨z, kd, b, rfl⟩ | ⟨z, c, s, rfl, ec, c40, c91⟩
      · have tx2 : (ptx t).drop n2 = 40 :: (ptx f ++ ptl (.sp y :: st)) := by rw [tx]; simp [ptx, ptl]
        rw [(at_cons tx2).1, decide_eq_true rfl]
        walk_at "go"
        refine r_need k2.sp.bh k2.rd tl (w := [40]) (by decide +kernel) tx2 fun B3 H3 g3 rd3 => ?_
        have k3 := k2.goOn g3 rd3 (by omega)
        have lt2 := (at_cons tx2).2.2
        have e2 := (at_cons tx2).2.1
        have lf2 := k2.lf
        have lw2 := k2.lw
        rw [List.length_singleton] at k3
        obtain ⟨us, hus, eus⟩ := k3.fo
        walk_at "go"
        refine ⟨tyL hus, ?_⟩
        walk_at "go"
        refine i_app hus (sz5' (by rw [eus.length, List.length_map]; omega)) ?_
        have k4 := k3.addF (x := .use) emb_str hus (by omega)
        walk_at "go"
        refine ⟨tyL k4.wa, ?_⟩
        walk_at "go"
        refine i_app k4.wa (sz5' (by rw [pdV_len]; omega)) ?_
        have k5 := k4.setW (st' := .sp y :: st) (us := pdV st ++ [.str " "]) (by show st.length + 1 ≤ _; omega) (by rw [pdV_cons]; rfl)
        walk_at "go"
        exact ⟨m - 1, by omega, B3, n2 + 1, _, _, v5, by omega, k5, .inl ⟨f, rfl, e2, t0g.1, ⟨t0g.2, sg⟩, by rw [← we]; simp [pwl, Tm.flat]⟩⟩
      · have tx2 : (ptx t).drop n2 = 91 :: (z.cps.toList ++ (58 :: (ktx kd ++ (93 :: 32 :: (ptx b ++ ptl st))))) := by rw [tx]; simp [ptx]
        rw [(at_cons tx2).1, decide_eq_false (show ¬ some 91 = some 40 by decide)]
        walk_at "go"
        refine r_sg k2.rd tl ?_
        walk_at "go"
        rw [sgB, (at_cons tx2).1, decide_eq_true rfl]
        walk_at "go"
        have lf2 := k2.lf
        have lw2 := k2.lw
        refine r_need k2.sp.bh k2.rd tl (w := [91]) (by decide +kernel) tx2 fun B3 H3 g3 rd3 => ?_
        have k3 := k2.goOn g3 rd3 (by omega)
        have lt2 := (at_cons tx2).2.2
        have e2 := (at_cons tx2).2.1
        rw [List.length_singleton] at k3
        walk_at "go"
        refine r_name k3.sp.bh k3.rd tl t0g.1 e2 rfl fun B4 H4 g4 rd4 => ?_
        have k4 := k3.goOn g4 rd4 (by omega)
        have e3 := at_app e2
        walk_at "go"
        refine r_need k4.sp.bh k4.rd tl (w := [58]) (by decide +kernel) e3 fun B5 H5 g5 rd5 => ?_
        have k5 := k4.goOn g5 rd5 (by omega)
        have e4 := (at_cons e3).2.1
        rw [List.length_singleton] at k5
        obtain ⟨us5, hus5, eus5⟩ := k5.fo
        walk_at "go"
        refine ⟨tyL hus5, ?_⟩
        walk_at "go"
        refine ⟨a, B5, x, ptx t, _, kd, _, rfl, k5.sp.bh, k5.hand, k5.rd, tl, e4, by simp, t0g.2.1.1, fun B6 H6 v g6 hh6 rd6 em6 => ?_⟩
        have k6 := k5.step g6 hh6 rd6 (by omega)
        walk_at "go"
        refine ⟨sz5 (by simp), fun q7 hq7 => ?_⟩
        have s7 : Stp No B6 H6 _ _ := Stp.new (o := .tup [.str z, v]) k6.sp.bh hq7
        have k7 := k6.step s7.up (k6.hand.mono s7 id) (by
          obtain ⟨dx, o⟩ := k6.rd
          exact ⟨dx, (s7.old _ id (by rw [o.2]; exact fun z => nomatch z)).trans o.1, s7.keep _ _ id o.2⟩) (Nat.le_refl _)
        obtain ⟨us7, hus7, eus7⟩ := k7.fo
        walk_at "go"
        refine i_app hus7 (sz5' (by rw [eus7.length, List.length_map]; omega)) ?_
        have k8 := k7.addF (x := .tk z kd) (emb_tup (us := [.str z, v]) upd_same (.cons emb_str (.cons (em6.mono s7.bb) .nil))) hus7 (by omega)
        have e5 := at_app e4
        walk_at "go"
        refine r_need k8.sp.bh k8.rd tl (w := [93, 32]) (by decide +kernel) e5 fun B9 H9 g9 rd9 => ?_
        have k9 := k8.goOn g9 rd9 (by omega)
        have e6 := at_app (w := [93, 32]) e5
        have le6 := le_app (w := [93, 32]) e5 (by decide)
        rw [List.length_cons, List.length_singleton] at k9 le6 e6
        walk_at "go"
        exact ⟨(ptx t).length - (n2 + 1 + z.cps.toList.length + 1 + (ktx kd).length + 2), by omega, B9, _, _, _, _, by omega, k9, .inl ⟨b, rfl, e6, t0g.2.2, sg, by rw [← we]; simp [Tm.flat]⟩⟩
      · have tx2 : (ptx t).drop n2 = c :: (s ++ ptl st) := by rw [tx, ec]; rfl
        rw [(at_cons tx2).1, decide_eq_false (show ¬ some c = some 40 by intro z; injection z with z; exact c40 z)]
        walk_at "go"
        refine r_sg k2.rd tl ?_
        walk_at "go"
        rw [sgB, (at_cons tx2).1, decide_eq_false (show ¬ some c = some 91 by intro z; injection z with z; exact c91 z)]
        have lf2 := k2.lf
        have lw2 := k2.lw
        have lt2 := (at_cons tx2).2.2
        obtain ⟨us2, hus2, eus2⟩ := k2.fo
        obtain ⟨z1, z8, zs⟩ := isNm_parts (show isNm z = true from t0g)
        walk_at "go"
        refine ⟨tyL hus2, ?_⟩
        walk_at "go"
        refine r_name k2.sp.bh k2.rd tl t0g tx (ptl_head st) fun B3 H3 g3 rd3 => ?_
        have k3 := k2.goOn g3 rd3 (by omega)
        have e3 := at_app tx
        change List.drop (n2 + z.cps.toList.length) (ptx t) = ptl st at e3
        have le3 := le_app tx z1
        change n2 + z.cps.toList.length + _ = _ at le3
        obtain ⟨us3, hus3, eus3⟩ := k3.fo
        walk_at "go"
        refine i_app hus3 (sz5' (by rw [eus3.length, List.length_map]; omega)) ?_
        have k4 := k3.addF (x := .nm z) emb_str hus3 (by omega)
        walk_at "go"
        refine i_while (fun m' σ H' => ∃ (B' : Hp) (n' : Nat) (st' : List Pd), m' = st'.length ∧ n2 + 1 ≤ n' ∧ n' ≤ (ptx t).length ∧ σ = [some (.str (cS (ptx t))), some (.ref x), some (.ref F), some (.ref Wt), some (.bl true), v5] ∧ PI K a B1 H1 x F Wt (ptx t) n' (ws ++ [.nm z]) st' B' H' ∧ (ptx t).drop n' = ptl st' ∧ pgd st' ∧ pwl st' = pwl st) st.length
          ⟨_, _, st, rfl, by omega, by omega, rfl, k4, e3, sg, rfl⟩ ?_
        rintro m5 σ H5 ⟨B5, n5, st5, rfl, h51, h52, rfl, k5, e5, sg5, pw5⟩
        have lw5 := k5.lw
        walk_at "go"
        refine i_lenL (SqL.of k5.wa) ?_
        rw [pdV_len]
        walk_at "go"
        cases st5 with
        | nil =>
          rw [decide_eq_false (show ¬ (0 : Int) < (([] : List Pd).length : Nat) by decide)]
          walk_at "go"
          refine i_lenL (SqL.of k5.wa) ?_
          rw [pdV_len]
          walk_at "go"
          rw [decide_eq_false (show ¬ (0 : Int) < (([] : List Pd).length : Nat) by decide)]
          walk_at "go"
          have e6 : n5 = (ptx t).length := by
            have := congrArg List.length e5
            rw [List.length_drop] at this
            change _ = 0 at this
            omega
          exact ⟨0, by omega, B5, n5, _, _, v5, by omega, k5, .inr ⟨rfl, rfl, by rw [← we, ← pw5]; simp [pwl, Tm.flat]⟩⟩
        | cons p r =>
          rw [decide_eq_true (show (0 : Int) < ((p :: r : List Pd).length : Nat) by rw [List.length_cons]; omega)]
          walk_at "go"
          refine i_ixL (SqL.of k5.wa) (by rw [pdV_cons]; exact atV_last _ _) ?_
          walk_at "go"
          cases p with
          | cl =>
            rw [decide_eq_true (show V.str (Pd.cl).s = V.str (Str.ofString ")") from rfl)]
            walk_at "go"
            refine i_turn ?_
            walk_at "go"
            obtain ⟨dx5, o5⟩ := id k5.rd
            refine ⟨x, dx5, _, rfl, o5.2, rfl, ?_⟩
            walk_at "go"
            refine i_pop k5.wa (y := .str ")") (by rw [pdV_cons, List.length_append, List.length_singleton]; exact List.getElem?_concat_length) ?_
            rw [show (pdV (Pd.cl :: r)).dropLast = pdV r by rw [pdV_cons, List.dropLast_concat]]
            have k6 := k5.setW (st' := r) (by rw [List.length_cons] at lw5; omega) rfl
            walk_at "go"
            refine ⟨B5, x, ptx t, n5, [41], by rw [show cS [41] = Str.ofString ")" by decide +kernel]; rfl, k6.sp.bh, k6.rd, tl, ⟨ptl r, e5⟩, fun B7 H7 g7 rd7 => ?_⟩
            have k7 := k6.goOn g7 rd7 (by omega)
            rw [List.length_singleton] at k7
            have lt5 := (at_cons (show List.drop n5 (ptx t) = 41 :: ptl r from e5)).2.2
            walk_at "go"
            exact ⟨r.length, by rw [List.length_cons]; omega, B7, n5 + 1, r, rfl, by omega, by omega, rfl, k7, (at_cons (show List.drop n5 (ptx t) = 41 :: ptl r from e5)).2.1, sg5, pw5⟩
          | sp y =>
            rw [decide_eq_false (show ¬ V.str (Pd.sp y).s = V.str (Str.ofString ")") from fun z => absurd z (by show ¬ V.str (Str.ofString " ") = V.str (Str.ofString ")"); decide +kernel))]
            walk_at "go"
            refine i_lenL (SqL.of k5.wa) ?_
            rw [pdV_len]
            walk_at "go"
            rw [decide_eq_true (show (0 : Int) < ((Pd.sp y :: r : List Pd).length : Nat) by rw [List.length_cons]; omega)]
            walk_at "go"
            obtain ⟨dx5, o5⟩ := id k5.rd
            refine ⟨x, dx5, _, rfl, o5.2, rfl, ?_⟩
            walk_at "go"
            refine i_pop k5.wa (y := .str " ") (by rw [pdV_cons, List.length_append, List.length_singleton]; exact List.getElem?_concat_length) ?_
            rw [show (pdV (Pd.sp y :: r)).dropLast = pdV r by rw [pdV_cons, List.dropLast_concat]]
            rw [List.length_cons] at lw5
            have k6 := k5.setW (st' := r) (by omega) rfl
            have tx5 : List.drop n5 (ptx t) = 32 :: (ptx y ++ 41 :: ptl r) := e5
            have lt5 := (at_cons tx5).2.2
            walk_at "go"
            refine ⟨B5, x, ptx t, n5, [32], by rw [show cS [32] = Str.ofString " " by decide +kernel]; rfl, k6.sp.bh, k6.rd, tl, ⟨_, tx5⟩, fun B7 H7 g7 rd7 => ?_⟩
            have k7 := k6.goOn g7 rd7 (by omega)
            rw [List.length_singleton] at k7
            walk_at "go"
            refine ⟨tyL k7.wa, ?_⟩
            walk_at "go"
            refine i_app k7.wa (sz5' (by rw [pdV_len]; omega)) ?_
            have k8 := k7.setW (st' := .cl :: r) (us := pdV r ++ [.str ")"]) (by show r.length + 1 ≤ _; omega) (by rw [pdV_cons]; rfl)
            walk_at "go"
            exact ⟨(ptx t).length - (n5 + 1), by omega, B7, n5 + 1, _, _, v5, by omega, k8, .inl ⟨y, rfl, (at_cons tx5).2.1, sg5.1, sg5.2, by rw [← we, ← pw5]; simp [pwl, Tm.flat]⟩⟩
    · walk_at "go"
      obtain ⟨dx2, o2⟩ := id k2.rd
      refine ⟨x, dx2, _, rfl, o2.2, rfl, ?_⟩
      walk_at "go"
      refine ⟨B2, x, ptx t, n2, rfl, k2.rd, tl, List.drop_eq_nil_of_le (by omega), ?_⟩
      walk_at "go"
      obtain ⟨us, hus, eus⟩ := k2.fo
      refine i_tupL (SqL.of hus) fun p hp => ?_
      have sp : Stp No B2 H2 _ _ := Stp.new (o := .tup us) k2.sp.bh hp
      exact hq _ pt _ _ _ ((((Stp.of_gr0 g4).up.trans ((k2.sp.trans sp.up).mono fun b _ w => w.symm)) : Stp (fun b => Isa a b ∨ b = x) B H _ _).unsee hx) (k2.hand.mono sp id) (emb_tup upd_same (eus.mono sp.bb))
end

end K10
set_option maxRecDepth 100000
set_option maxHeartbeats 2000000
namespace K10
open PySem PySem.Spec PyProof.Rows L2 Us Dl
/-! ### the texts by place -/
def txT : Dl.Tm → List (List Nat)
  | .nm z => [ptx (.nm z)]
  | .ap f x => ptx (.ap f x) :: (txT f ++ txT x)
  | .la z k b => ptx (.la z k b) :: txT b
def txF (ts : List Dl.Tm) : List (List Nat) := (ts.map txT).flatten
def flF (ts : List Dl.Tm) : List Wd := (ts.map Tm.flat).flatten
def enF : Nat → List Dl.Tm → List Nat
  | _, [] => []
  | o, t :: r => endsT o t ++ enF (o + t.size) r
def nxF : List Dl.Tm → List Dl.Tm
  | .ap f x :: r => f :: x :: r
  | .la _ _ b :: r => b :: r
  | .nm _ :: r => r
  | [] => []
def hdW : Dl.Tm → Wd
  | .ap _ _ => .use
  | .la z k _ => .tk z k
  | .nm z => .nm z
theorem txF_nx (t : Dl.Tm) (r : List Dl.Tm) : txF (t :: r) = ptx t :: txF (nxF (t :: r)) := by
  cases t <;> simp [txF, txT, nxF]
theorem flF_nx (t : Dl.Tm) (r : List Dl.Tm) : flF (t :: r) = hdW t :: flF (nxF (t :: r)) := by
  cases t <;> simp [flF, Tm.flat, nxF, hdW]
theorem enF_nx (o : Nat) (t : Dl.Tm) (r : List Dl.Tm) : enF o (t :: r) = (o + t.size) :: enF (o + 1) (nxF (t :: r)) := by
  cases t with
  | nm z => simp [enF, endsT, nxF, Tm.size]
  | ap f x => simp [enF, endsT, nxF, Tm.size, Nat.add_assoc, Nat.add_comm, Nat.add_left_comm]
  | la z k b => simp [enF, endsT, nxF, Tm.size, Nat.add_assoc, Nat.add_comm, Nat.add_left_comm]
theorem txT_len : ∀ t : Dl.Tm, (txT t).length = t.size
  | .nm _ => rfl
  | .ap f x => by
    show ((txT f ++ txT x).length + 1) = _
    rw [List.length_append, txT_len f, txT_len x]
    show _ = f.size + x.size + 1
    rfl
  | .la _ _ b => by
    show (txT b).length + 1 = _
    rw [txT_len b]
    rfl
def foA (t : Dl.Tm) : Nat → List Dl.Tm
  | 0 => [t]
  | p + 1 => nxF (foA t p)
theorem nx_all {Q : Dl.Tm → Prop} (h1 : ∀ f x, Q (.ap f x) → Q f ∧ Q x) (h2 : ∀ z k b, Q (.la z k b) → Q b) {ts : List Dl.Tm} (h : ∀ u ∈ ts, Q u) : ∀ u ∈ nxF ts, Q u := by
  cases ts with
  | nil => exact h
  | cons t r =>
    have hr : ∀ u ∈ r, Q u := fun u hu => h u (List.mem_cons_of_mem _ hu)
    have ht := h t (List.mem_cons_self ..)
    cases t with
    | nm z => exact hr
    | ap f x =>
      intro u hu
      rcases List.mem_cons.mp hu with rfl | hu
      · exact (h1 _ _ ht).1
      · rcases List.mem_cons.mp hu with rfl | hu
        · exact (h1 _ _ ht).2
        · exact hr u hu
    | la z k b =>
      intro u hu
      rcases List.mem_cons.mp hu with rfl | hu
      · exact h2 _ _ _ ht
      · exact hr u hu
theorem fo_all {Q : Dl.Tm → Prop} (h1 : ∀ f x, Q (.ap f x) → Q f ∧ Q x) (h2 : ∀ z k b, Q (.la z k b) → Q b) {t : Dl.Tm} (h : Q t) : ∀ p, ∀ u ∈ foA t p, Q u
  | 0 => fun u hu => by rw [List.mem_singleton.mp hu]; exact h
  | p + 1 => nx_all h1 h2 (fo_all h1 h2 h p)
theorem fo_fl (t : Dl.Tm) : ∀ p, flF (foA t p) = t.flat.drop p
  | 0 => by simp [foA, flF]
  | p + 1 => by
    have ih := fo_fl t p
    show flF (nxF (foA t p)) = _
    cases e : foA t p with
    | nil =>
      rw [e] at ih
      have h0 : t.flat.drop p = [] := ih.symm
      show [] = _
      rw [← List.drop_drop, h0]
      rfl
    | cons u r =>
      rw [e, flF_nx] at ih
      rw [show p + 1 = p + 1 from rfl, ← List.drop_drop, ← ih]
      rfl
theorem fo_en (t : Dl.Tm) : ∀ p, p ≤ t.size → enF p (foA t p) = (endsT 0 t).drop p
  | 0, _ => by simp [foA, enF]
  | p + 1, h => by
    have ih := fo_en t p (by omega)
    show enF (p + 1) (nxF (foA t p)) = _
    cases e : foA t p with
    | nil =>
      have := fo_fl t p
      rw [e] at this
      have := congrArg List.length this
      rw [List.length_drop, Tm.flat_len] at this
      change 0 = _ at this
      omega
    | cons u r =>
      rw [e, enF_nx] at ih
      rw [← List.drop_drop, ← ih]
      rfl
theorem fo_len (t : Dl.Tm) (p : Nat) : (txF (foA t p)).length = t.size - p := by
  have h : ∀ ts : List Dl.Tm, (txF ts).length = (flF ts).length := fun ts => by
    induction ts with
    | nil => rfl
    | cons u r ih =>
      unfold txF flF at ih ⊢
      rw [List.map_cons, List.map_cons, List.flatten_cons, List.flatten_cons, List.length_append, List.length_append, ih, txT_len, Tm.flat_len]
  rw [h, fo_fl, List.length_drop, Tm.flat_len]
def dReadP : DSp := fun ds P _ => ∃ t : Dl.Tm, ds = [.str (cS (ptx t))] ∧ t.gud ∧ t.size ≤ 100 ∧ P (.tup t.ds)
def dLText : DSp := fun ds P _ => ∃ t : Dl.Tm, ds = [.tup t.ds] ∧ t.gud ∧ t.size ≤ 400 ∧ P (.str (cS (ptx t)))
theorem ptx_len : ∀ {t : Dl.Tm}, t.gud → (ptx t).length ≤ 1000 * t.size
  | .nm z, h => by
    have := (isNm_parts (show isNm z = true from h)).2.1
    show z.cps.toList.length ≤ 1000 * 1
    omega
  | .ap f x, h => by
    have h1 := ptx_len h.1
    have h2 := ptx_len h.2
    show (40 :: (ptx f ++ 32 :: (ptx x ++ [41]))).length ≤ 1000 * (f.size + x.size + 1)
    simp only [List.length_append, List.length_cons, List.length_nil]
    omega
  | .la z k b, h => by
    have h1 := ptx_len h.2.2
    have h2 := (isNm_parts h.1).2.1
    have h3 := ktx_len k
    have h4 := h.2.1.2.2
    show (91 :: (z.cps.toList ++ 58 :: (ktx k ++ [93, 32])) ++ ptx b).length ≤ 1000 * (b.size + 1)
    simp only [List.length_append, List.length_cons, List.length_nil]
    omega
section
variable {P : Program} {w : World} {K : PySem.W.Frag} {mg : Str → Option Value} {base : Heap}
theorem ok_read_program (T : Txt K mg) (Dwhole_program : DefOk P w K mg base CX0 5 "whole_program" p_whole_program (toSp K dWholeP)) (Dis_program_there : DefOk P w K mg base CX0 5 "is_program_there" p_is_program_there (toSp K dProgThere)) : DefOk P w K mg base (L2.CX P w) 6 "read_program" p_read_program (toSp K dReadP) := by
  refine T.d_read_program.dlX sc_read_program (fun _ _ _ _ _ _ us hl => match us, hl with | [_], _ => rfl) (fun ds Q E ⟨k, h, _⟩ => by rw [h]; rfl) (fun fa cdv A outer s H E hr => ⟨_, _, (dss_cons (ds_set (i := 1) sc_read_program.nd rfl (Or.inl rfl) (de_call0 Dwhole_program (hr.mono (by first | decide | omega)) (da_cons (dv 0) da_nil)))
    (dss_cons (ds_if (dt_not (dt_val (de_call0 Dis_program_there (hr.mono (by first | decide | omega)) (da_cons (dv 1) da_nil))))
      (dss_one (ds_raise0 rfl rfl (takes_of rfl rfl rfl rfl) T.x_NoProgram))
      dss_nil)
    (dss_one (ds_ret (dv 1))))), fun ds Q E h => ?_⟩)
  obtain ⟨t, rfl, tg, ts, q⟩ := h
  walk_at "d"
  refine ⟨t, rfl, tg, by have := ptx_len tg; omega, ?_⟩
  walk_at "d"
  refine ⟨t, rfl, tg, by omega, ?_⟩
  walk_at "r"
  walk_at "d"
  exact q
theorem ok_program_text (T : Txt K mg) (Dcheck_program : DefOk P w K mg base (L2.CX P w) 5 "check_program" p_check_program (toSp K dCheck)) (Dprogram_text_of : DefOk P w K mg base CX0 2 "program_text_of" p_program_text_of (toSp K dPText)) : DefOk P w K mg base (L2.CX P w) 6 "program_text" p_program_text (toSp K dPText) := by
  refine T.d_program_text.dlX sc_program_text (fun _ _ _ _ _ _ us hl => match us, hl with | [_], _ => rfl) (fun ds Q E ⟨k, h, _⟩ => by rw [h]; rfl) (fun fa cdv A outer s H E hr => ⟨_, _, (dss_cons (ds_expr (de_callX Dcheck_program (hr.mono (by first | decide | omega)) (takes_of rfl rfl rfl rfl) (da_cons (dv 0) da_nil)))
    (dss_one (ds_ret (de_call0 Dprogram_text_of (hr.mono (by first | decide | omega)) (da_cons (dv 0) da_nil))))), fun ds Q E h => ?_⟩)
  obtain ⟨k, rfl, kg, ks, q⟩ := h
  walk_at "d"
  refine ⟨k, rfl, kg, by omega, ?_⟩
  walk_at "d"
  exact ⟨k, rfl, kg, ks, q⟩
theorem ok_law_text (T : Txt K mg) (Dlaw_spans : DefOk P w K mg base CX0 1 "_law_spans" p_law_spans (toSp K dEndsOf)) {n : Nat} (hn : n = 31) (Dlaw_kind_text : DefOk P w K mg base CX0 (n + 1) "_law_kind_text" p_law_kind_text (toSp K (dKTextL n))) : DefOk P w K mg base CX0 (n + 2) "_law_text" p_law_text (toSp K dLText) := by
  refine T.d_law_text.dl sc_law_text (fun _ _ _ _ _ _ us hl => match us, hl with | [_], _ => rfl) (fun ds Q E ⟨t, h, _⟩ => by rw [h]; rfl) (fun fa cdv A outer s H E hr => ⟨_, _, (dss_cons (ds_set (i := 1) sc_law_text.nd rfl (Or.inl rfl) (de_call0 Dlaw_spans (hr.mono (by first | decide | omega)) (da_cons (dv 0) da_nil)))
    (dss_cons (ds_setN (i := 2) sc_law_text.nd rfl (Or.inl rfl) (dn_rep (de_n (dn_lst (da_cons de_str da_nil))) (de_b1V (len_k rfl) l_len T.f_len (pv 0))))
    (dss_cons (ds_for (vs := [3]) PassesOwn.never rfl (di_down T.f_range (da_cons (de_op op_sub l_int (de_b1V (len_k rfl) l_len T.f_len (pv 0)) de_int) (da_cons (de_un un_neg l_neg de_int) (da_cons (de_un un_neg l_neg de_int) da_nil)))) (dg_name (i := 3) (by decide) sc_law_text.nd rfl (Or.inl rfl))
      (dss_cons (ds_set (i := 4) sc_law_text.nd rfl (Or.inl rfl) (de_ixV (pv 0) (dv 3)))
      (dss_one (ds_if (dt_val (de_isi (cs := []) (n := .tuple) (fun _ h => nomatch h) T.f_isinstance T.f_tuple (by decide +kernel) (dv 4)))
        (dss_one (ds_setIt (pv 2) (de_op op_add_str l_catS (de_op op_add_str l_catS (de_op op_add_str l_catS (de_op op_add_str l_catS (de_op op_add_str l_catS de_str (de_ixV (pv 4) de_int)) de_str) (de_call0 Dlaw_kind_text (hr.mono (by first | decide | omega)) (da_cons (de_ixV (pv 4) de_int) da_nil))) de_str) (de_ixV (pv 2) (de_op op_add l_int (dv 3) de_int))) (dv 3) (hg := pg_sub (pv 2) (DPE.pe (K := K) (W := WXn) (dv 3)) set_list)))
        (dss_one (ds_if (dt_cmp (op_eqD hr.units) l_eqD (dv 4) de_str)
          (dss_one (ds_setIt (pv 2) (de_op op_add_str l_catS (de_op op_add_str l_catS (de_op op_add_str l_catS (de_op op_add_str l_catS de_str (de_ixV (pv 2) (de_op op_add l_int (dv 3) de_int))) de_str) (de_ixV (pv 2) (de_ixV (pv 1) (de_op op_add l_int (dv 3) de_int)))) de_str) (dv 3) (hg := pg_sub (pv 2) (DPE.pe (K := K) (W := WXn) (dv 3)) set_list)))
          (dss_one (ds_setIt (pv 2) (dv 4) (dv 3) (hg := pg_sub (pv 2) (DPE.pe (K := K) (W := WXn) (dv 3)) set_list)))))))))
    (dss_one (ds_ret (de_ixV (pv 2) de_int)))))), fun ds Q E h => ?_⟩)
  obtain ⟨t, rfl, tg, ht, q⟩ := h
  have z0 : (1000000 : Nat) ≤ sizeLine := by decide
  have hp := t.size_pos
  have eO : Str.ofString "(" = cS [40] := by decide +kernel
  have eC : Str.ofString ")" = cS [41] := by decide +kernel
  have eS : Str.ofString " " = cS [32] := by decide +kernel
  have eB : Str.ofString "[" = cS [91] := by decide +kernel
  have eN : Str.ofString ":" = cS [58] := by decide +kernel
  have eD : Str.ofString "] " = cS [93, 32] := by decide +kernel
  walk_at "r"
  walk_at "d"
  refine ⟨t, rfl, tg, by omega, ?_⟩
  walk_at "r"
  walk_at "d"
  refine ⟨⟨by omega, by rw [t.ds_len]; omega, by rw [t.ds_len, Int.toNat_natCast]; show 1 * t.size ≤ sizeLine; omega⟩, ?_⟩
  rw [rep_one, t.ds_len]
  walk_at "r"
  walk_at "d"
  refine ⟨⟨rfl, by rw [t.ds_len]; omega, by rw [t.ds_len]; omega, by decide, by decide⟩, ?_⟩
  rw [t.ds_len, show ((t.size : Int) - 1 - -1).toNat = t.size by omega]
  have tz : ∀ p u r, foA t p = u :: r → u.gud ∧ u.size ≤ t.size ∧ p < t.size := fun p u r e => by
    refine ⟨fo_all (Q := Tm.gud) (fun f x h => h) (fun z k b h => h.2.2) tg p u (by rw [e]; exact List.mem_cons_self ..), fo_all (Q := fun u => u.size ≤ t.size) (fun f x h => by change f.size + x.size + 1 ≤ _ at h; omega) (fun z k b h => by change b.size + 1 ≤ _ at h; omega) (Nat.le_refl _) p u (by rw [e]; exact List.mem_cons_self ..), ?_⟩
    have := fo_len t p
    rw [e, txF_nx, List.length_cons] at this
    omega
  have atw : ∀ p u r, foA t p = u :: r → atI t.ds (p : Int) = some (hdW u).d := fun p u r e => by
    refine atI_nat ?_
    have h := fo_fl t p
    rw [e, flF_nx] at h
    unfold Tm.ds
    rw [List.getElem?_map, ← List.head?_drop, ← h]
    rfl
  have ate : ∀ p u r, foA t p = u :: r → atI ((endsT 0 t).map nD) (p : Int) = some (nD (p + u.size)) := fun p u r e => by
    refine atI_nat ?_
    have h := fo_en t p (by have := (tz p u r e).2.2; omega)
    rw [e, enF_nx] at h
    rw [List.getElem?_map, ← List.head?_drop, ← h]
    rfl
  refine for_at ((List.range t.size).map fun k : Nat => D.int ((t.size : Int) - 1 + (k : Int) * -1)) (fun i s => i ≤ t.size ∧ ∃ (s3 s4 : Sl), s = [.val (.tup t.ds), .val (.lst ((endsT 0 t).map nD)), .own ((List.replicate (t.size - i) [] ++ txF (foA t (t.size - i))).map fun z => D.str (cS z)), s3, s4] ∧ s3.isOwn = false ∧ s4.isOwn = false) ?_ ?_ _ ?_
  · rintro s ⟨_, s3, s4, rfl, h3, h4⟩
    rw [List.length_map, List.length_range, Nat.sub_self]
    have e0 : atI (List.map (fun z => D.str (cS z)) (List.replicate 0 [] ++ txF (foA t 0))) 0 = some (D.str (cS (ptx t))) := atI_nat (j := 0) (by rw [show txF (foA t 0) = ptx t :: txF (nxF [t]) from txF_nx t []]; rfl)
    walk_at "r"
    walk_at "d"
    rw [e0]
    exact q
  · rintro i d r s hd ⟨hi, s3, s4, rfl, h3, h4⟩ ih
    have hi2 : i < t.size := by
      have := (List.getElem?_eq_some_iff.mp hd).1
      rwa [List.length_map, List.length_range] at this
    obtain ⟨p, hp1⟩ : ∃ p, t.size - i = p + 1 := ⟨t.size - i - 1, by omega⟩
    have hp2 : t.size - (i + 1) = p := by omega
    have ed : d = D.int (p : Int) := by
      rw [List.getElem?_map, List.getElem?_range hi2] at hd
      have e := (Option.some.inj hd).symm
      rw [e]
      have e2 : (t.size : Int) - 1 + (i : Int) * -1 = (p : Int) := by omega
      show D.int _ = _
      rw [e2]
    subst ed
    obtain ⟨u, rs, eu⟩ : ∃ u rs, foA t p = u :: rs := by
      cases e : foA t p with
      | nil =>
        have := fo_len t p
        rw [e] at this
        change 0 = _ at this
        omega
      | cons u rs => exact ⟨u, rs, rfl⟩
    have en : foA t (p + 1) = nxF (u :: rs) := by rw [← eu]; rfl
    obtain ⟨ug, us, _⟩ := tz p u rs eu
    have aw := atw p u rs eu
    have pl := ptx_len ug
    rw [hp1, en]
    have atx : ∀ (j : Nat) (z : List Nat), (txF (nxF (u :: rs)))[j]? = some z → atI (List.map (fun z => D.str (cS z)) (List.replicate (p + 1) [] ++ txF (nxF (u :: rs)))) ((p + 1 + j : Nat) : Int) = some (D.str (cS z)) := fun j z h => by
      refine atI_nat ?_
      rw [List.getElem?_map, List.getElem?_append_right (by rw [List.length_replicate]; omega), List.length_replicate, Nat.add_sub_cancel_left, h]
      rfl
    have hix : ixN (List.map (fun z => D.str (cS z)) (List.replicate (p + 1) [] ++ txF (nxF (u :: rs)))).length (p : Int) = some p := by
      rw [List.length_map, List.length_append, List.length_replicate]
      exact ixN_nat (by omega)
    have hset : (List.map (fun z => D.str (cS z)) (List.replicate (p + 1) [] ++ txF (nxF (u :: rs)))).set p (D.str (cS (ptx u))) = List.map (fun z => D.str (cS z)) (List.replicate p [] ++ txF (u :: rs)) := by
      rw [txF_nx, List.replicate_succ', List.append_assoc, List.map_append, List.map_append, List.set_append_right _ _ (by rw [List.length_map, List.length_replicate]; exact Nat.le_refl _), List.length_map, List.length_replicate, Nat.sub_self]
      simp
    have nxt : ∀ a b : Sl, a.isOwn = false → b.isOwn = false → _ := fun a b ha hb => ih [.val (.tup t.ds), .val (.lst ((endsT 0 t).map nD)), .own (List.map (fun z => D.str (cS z)) (List.replicate p [] ++ txF (u :: rs))), a, b] ⟨hi2, a, b, by rw [hp2, eu], ha, hb⟩
    cases u with
    | la z k b =>
      have a1 := atx 0 (ptx b) (by rw [show nxF (Tm.la z k b :: rs) = b :: rs from rfl, txF_nx]; rfl)
      change atI _ ((p : Int) + 1) = _ at a1
      have aw2 : atI t.ds (p : Int) = some (.tup [.str z, k.d]) := aw
      walk_at "r"
      obtain ⟨zc, rfl⟩ : ∃ zc, z = cS zc := ⟨z.cps.toList, (cS_cps z).symm⟩
      have zl : zc.length ≤ 8 := (isNm_parts (show isNm (cS zc) = true from ug.1)).2.1
      have kl := ktx_len k
      have kz := ug.2.1.2.2
      have bl := ptx_len ug.2.2
      have us2 : b.size + 1 ≤ t.size := us
      (repeat ((conv => whnf); first | (refine And.intro (by first | assumption | exact True.intro | rfl | decide | exact Nat.le_of_ble_eq_true rfl | omega) ?_) | (rw [aw2]))); (try (conv => whnf))
      rw [eB, eN, eD]
      refine ⟨by rw [cS_len, cS_len]; show 1 + _ ≤ _; omega, ?_⟩
      rw [cS_app]
      walk_at "d"
      refine ⟨by rw [cS_len, cS_len, List.length_append]; show 1 + _ + 1 ≤ _; omega, ?_⟩
      rw [cS_app]
      (repeat ((conv => whnf); first | (refine And.intro (by first | assumption | exact True.intro | rfl | decide | exact Nat.le_of_ble_eq_true rfl | omega) ?_))); (try (conv => whnf))
      have kd := ug.2.1.2.1
      refine ⟨k, by omega, rfl, ug.2.1.1, by omega, ?_⟩
      walk_at "d"
      refine ⟨by rw [cS_len, cS_len, List.length_append, List.length_append]; show 1 + _ + 1 + _ ≤ _; omega, ?_⟩
      rw [cS_app]
      walk_at "d"
      refine ⟨by rw [cS_len, cS_len, List.length_append, List.length_append, List.length_append]; show 1 + _ + 1 + _ + 2 ≤ _; omega, ?_⟩
      rw [cS_app]
      (repeat ((conv => whnf); first | (refine And.intro (by first | assumption | exact True.intro | rfl | decide | exact Nat.le_of_ble_eq_true rfl | omega) ?_) | (rw [a1]))); (try (conv => whnf))
      refine ⟨by rw [cS_len, cS_len, List.length_append, List.length_append, List.length_append, List.length_append]; show 1 + _ + 1 + _ + 2 + _ ≤ _; omega, ?_⟩
      rw [cS_app, show [91] ++ zc ++ [58] ++ ktx k ++ [93, 32] ++ ptx b = ptx (.la (cS zc) k b) by show _ = 91 :: (zc ++ 58 :: (ktx k ++ [93, 32])) ++ ptx b; simp]
      (repeat ((conv => whnf); first | (refine And.intro (by first | assumption | exact True.intro | rfl | decide | exact Nat.le_of_ble_eq_true rfl | omega) ?_) | (rw [hix]))); (try (conv => whnf))
      rw [hset]
      exact nxt _ _ rfl rfl
    | ap f x =>
      have a1 := atx 0 (ptx f) (by rw [show nxF (Tm.ap f x :: rs) = f :: x :: rs from rfl, txF_nx]; rfl)
      change atI _ ((p : Int) + 1) = _ at a1
      have a2 := atx f.size (ptx x) (by
        rw [show nxF (Tm.ap f x :: rs) = f :: x :: rs from rfl]
        show (txT f ++ txF (x :: rs))[f.size]? = _
        rw [List.getElem?_append_right (by rw [txT_len]; exact Nat.le_refl _), txT_len, Nat.sub_self, txF_nx]
        rfl)
      have a3 : atI ((endsT 0 t).map nD) ((p : Int) + 1) = some (nD (p + 1 + f.size)) := ate (p + 1) f (x :: rs) en
      have aw2 : atI t.ds (p : Int) = some (.str "@") := aw
      have fl := ptx_len ug.1
      have xl := ptx_len ug.2
      have us2 : f.size + x.size + 1 ≤ t.size := us
      walk_at "r"
      (repeat ((conv => whnf); first | (refine And.intro (by first | assumption | exact True.intro | rfl | decide | exact Nat.le_of_ble_eq_true rfl | omega) ?_) | (rw [aw2]))); (try (conv => whnf))
      refine ⟨⟨ok_wd .use True.intro, ok_wd .use True.intro⟩, ?_⟩
      rw [eO, eC, eS]
      (repeat ((conv => whnf); first | (refine And.intro (by first | assumption | exact True.intro | rfl | decide | exact Nat.le_of_ble_eq_true rfl | omega) ?_) | (rw [eqv_us]) | (rw [a1]))); (try (conv => whnf))
      refine ⟨by rw [cS_len, cS_len]; show 1 + _ ≤ _; omega, ?_⟩
      rw [cS_app]
      walk_at "d"
      refine ⟨by rw [cS_len, cS_len, List.length_append]; show 1 + _ + 1 ≤ _; omega, ?_⟩
      rw [cS_app]
      (repeat ((conv => whnf); first | (refine And.intro (by first | assumption | exact True.intro | rfl | decide | exact Nat.le_of_ble_eq_true rfl | omega) ?_) | (rw [a3]) | (rw [a2]))); (try (conv => whnf))
      refine ⟨by rw [cS_len, cS_len, List.length_append, List.length_append]; show 1 + _ + 1 + _ ≤ _; omega, ?_⟩
      rw [cS_app]
      walk_at "d"
      refine ⟨by rw [cS_len, cS_len, List.length_append, List.length_append, List.length_append]; show 1 + _ + 1 + _ + 1 ≤ _; omega, ?_⟩
      rw [cS_app, show [40] ++ ptx f ++ [32] ++ ptx x ++ [41] = ptx (.ap f x) by show _ = 40 :: (ptx f ++ 32 :: (ptx x ++ [41])); simp]
      (repeat ((conv => whnf); first | (refine And.intro (by first | assumption | exact True.intro | rfl | decide | exact Nat.le_of_ble_eq_true rfl | omega) ?_) | (rw [hix]))); (try (conv => whnf))
      rw [hset]
      exact nxt _ _ rfl rfl
    | nm z =>
      have hne : z ≠ "@" := nm_use ug
      have aw2 : atI t.ds (p : Int) = some (.str z) := aw
      walk_at "r"
      (repeat ((conv => whnf); first | (refine And.intro (by first | assumption | exact True.intro | rfl | decide | exact Nat.le_of_ble_eq_true rfl | omega) ?_) | (rw [aw2]))); (try (conv => whnf))
      refine ⟨⟨ok_wd (.nm z) ug, ok_wd .use True.intro⟩, ?_⟩
      walk_at "d"
      rw [show eqv (D.str z) (D.str "@") = false from eqv_nm hne]
      have hs2 := hset
      rw [show cS (ptx (.nm z)) = z from cS_cps z] at hs2
      (repeat ((conv => whnf); first | (refine And.intro (by first | assumption | exact True.intro | rfl | decide | exact Nat.le_of_ble_eq_true rfl | omega) ?_) | (rw [hix]))); (try (conv => whnf))
      rw [hs2]
      exact nxt _ _ rfl rfl
  · refine ⟨Nat.zero_le _, .no, .no, ?_, rfl, rfl⟩
    have e0 : txF (foA t (t.size - 0)) = [] := List.length_eq_zero_iff.mp (by rw [fo_len]; omega)
    rw [e0, List.append_nil, List.map_replicate, Nat.sub_zero]
    rfl
end

end K10
set_option maxRecDepth 100000
set_option maxHeartbeats 2000000
namespace K10
open PySem PySem.Spec PyProof.Rows L2 Us Dl
/-! ### unlike ones have unlike texts -/
theorem kin_lt (i : Int) : kin (.lt i) = [97 + i.toNat] := rfl
theorem ktx_inj : ∀ {k k' : Kd} {t t' : List Nat}, k.good → k'.good → t.head? ≠ some 32 → t'.head? ≠ some 32 → ktx k ++ t = ktx k' ++ t' → k = k' ∧ t = t'
  | .lt i, .lt j, t, t', g, g', _, _, h => by
    injection h with h1 h2
    have := g.1; have := g'.1
    exact ⟨by congr 1; omega, h2⟩
  | .lt i, .pr (.lt j) y, t, t', g, g', ht, _, h => by
    injection h with h1 h2
    change t = 32 :: _ at h2
    rw [h2] at ht
    exact absurd rfl ht
  | .lt i, .pr (.pr a b) y, t, t', g, g', _, _, h => by
    injection h with h1 h2
    omega
  | .pr (.lt j) y, .lt i, t, t', g, g', _, ht, h => by
    injection h with h1 h2
    change 32 :: _ = t' at h2
    rw [← h2] at ht
    exact absurd rfl ht
  | .pr (.pr a b) y, .lt i, t, t', g, g', _, _, h => by
    injection h with h1 h2
    omega
  | .pr (.lt i) y, .pr (.lt j) y', t, t', g, g', ht, ht', h => by
    injection h with h1 h2
    have h3 : ktx y ++ t = ktx y' ++ t' := by
      injection h2 with _ h2; injection h2 with _ h2; injection h2 with _ h2
    obtain ⟨e1, e2⟩ := ktx_inj g.2 g'.2 ht ht' h3
    have := g.1.1; have := g'.1.1
    exact ⟨by rw [e1, show i = j by omega], e2⟩
  | .pr (.lt i) y, .pr (.pr a b) y', t, t', g, g', _, _, h => by
    injection h with h1 h2
    omega
  | .pr (.pr a b) y, .pr (.lt i) y', t, t', g, g', _, _, h => by
    injection h with h1 h2
    omega
  | .pr (.pr a b) y, .pr (.pr a' b') y', t, t', g, g', ht, ht', h => by
    have h2 : ktx (.pr a b) ++ (41 :: 32 :: 62 :: 32 :: (ktx y ++ t)) = ktx (.pr a' b') ++ (41 :: 32 :: 62 :: 32 :: (ktx y' ++ t')) := by
      rw [ktx_pr (.pr a b) y, ktx_pr (.pr a' b') y'] at h
      simpa [kin, isPr] using h
    obtain ⟨e1, e2⟩ := ktx_inj g.1 g'.1 (by simp) (by simp) h2
    have h3 : ktx y ++ t = ktx y' ++ t' := by
      injection e2 with _ h2; injection h2 with _ h2; injection h2 with _ h2; injection h2 with _ h2
    obtain ⟨e3, e4⟩ := ktx_inj g.2 g'.2 ht ht' h3
    exact ⟨by rw [e1, e3], e4⟩
theorem span_inj : ∀ {z z' s s' : List Nat}, (∀ c ∈ z, smallC c = true) → (∀ c ∈ z', smallC c = true) → (s.head?).any smallC = false → (s'.head?).any smallC = false → z ++ s = z' ++ s' → z = z' ∧ s = s'
  | [], [], s, s', _, _, _, _, h => ⟨rfl, h⟩
  | [], c :: z', s, s', _, h2, h3, _, h => by
    change s = c :: (z' ++ s') at h
    rw [h] at h3
    rw [show Option.any smallC (c :: (z' ++ s')).head? = smallC c from rfl, h2 c (List.mem_cons_self ..)] at h3
    cases h3
  | c :: z, [], s, s', h1, _, _, h4, h => by
    change c :: (z ++ s) = s' at h
    rw [← h] at h4
    rw [show Option.any smallC (c :: (z ++ s)).head? = smallC c from rfl, h1 c (List.mem_cons_self ..)] at h4
    cases h4
  | c :: z, d :: z', s, s', h1, h2, h3, h4, h => by
    injection h with e1 e2
    obtain ⟨a, b⟩ := span_inj (fun x hx => h1 x (List.mem_cons_of_mem _ hx)) (fun x hx => h2 x (List.mem_cons_of_mem _ hx)) h3 h4 e2
    exact ⟨by rw [e1, a], b⟩
theorem nm_head {z : Str} (h : isNm z = true) : ∃ c s, z.cps.toList = c :: s ∧ smallC c = true := by
  obtain ⟨h1, _, h3⟩ := isNm_parts h
  cases e : z.cps.toList with
  | nil => rw [e] at h1; cases h1
  | cons c s => exact ⟨c, s, rfl, h3 c (by rw [e]; exact List.mem_cons_self ..)⟩
theorem small_ne {c : Nat} (h : smallC c = true) : c ≠ 40 ∧ c ≠ 91 := by
  unfold smallC at h
  have h1 := of_decide_eq_true (Bool.and_eq_true_iff.mp h).1
  have h2 := of_decide_eq_true (Bool.and_eq_true_iff.mp h).2
  exact ⟨by omega, by omega⟩
theorem str_of_codes {z z' : Str} (h : z.cps.toList = z'.cps.toList) : z = z' := by rw [← cS_cps z, ← cS_cps z', h]
theorem ptx_inj : ∀ {t u : Dl.Tm} {s s' : List Nat}, t.gud → u.gud → (s.head?).any smallC = false → (s'.head?).any smallC = false → ptx t ++ s = ptx u ++ s' → t = u ∧ s = s'
  | .nm z, .nm y, s, s', g, g', h1, h2, h => by
    obtain ⟨a, b⟩ := span_inj (isNm_parts (show isNm z = true from g)).2.2 (isNm_parts (show isNm y = true from g')).2.2 h1 h2 h
    exact ⟨by rw [str_of_codes a], b⟩
  | .nm z, .ap f x, s, s', g, g', h1, h2, h => by
    obtain ⟨c, r, e, hc⟩ := nm_head (show isNm z = true from g)
    change z.cps.toList ++ s = _ at h
    rw [e] at h
    injection h with h _
    exact absurd h (small_ne hc).1
  | .nm z, .la y k t, s, s', g, g', h1, h2, h => by
    obtain ⟨c, r, e, hc⟩ := nm_head (show isNm z = true from g)
    change z.cps.toList ++ s = _ at h
    rw [e] at h
    injection h with h _
    exact absurd h (small_ne hc).2
  | .ap f x, .nm z, s, s', g, g', h1, h2, h => by
    obtain ⟨c, r, e, hc⟩ := nm_head (show isNm z = true from g')
    change _ = z.cps.toList ++ s' at h
    rw [e] at h
    injection h with h _
    exact absurd h.symm (small_ne hc).1
  | .la y k t, .nm z, s, s', g, g', h1, h2, h => by
    obtain ⟨c, r, e, hc⟩ := nm_head (show isNm z = true from g')
    change _ = z.cps.toList ++ s' at h
    rw [e] at h
    injection h with h _
    exact absurd h.symm (small_ne hc).2
  | .ap f x, .la y k t, s, s', g, g', h1, h2, h => by injection h with h _; cases h
  | .la y k t, .ap f x, s, s', g, g', h1, h2, h => by injection h with h _; cases h
  | .ap f x, .ap f' x', s, s', g, g', h1, h2, h => by
    have h3 : ptx f ++ (32 :: (ptx x ++ (41 :: s))) = ptx f' ++ (32 :: (ptx x' ++ (41 :: s'))) := by
      injection h with _ h
      simpa using h
    obtain ⟨e1, e2⟩ := ptx_inj g.1 g'.1 rfl rfl h3
    injection e2 with _ e2
    obtain ⟨e3, e4⟩ := ptx_inj g.2 g'.2 rfl rfl e2
    injection e4 with _ e4
    exact ⟨by rw [e1, e3], e4⟩
  | .la z k t, .la y l u, s, s', g, g', h1, h2, h => by
    have h3 : z.cps.toList ++ (58 :: (ktx k ++ (93 :: 32 :: (ptx t ++ s)))) = y.cps.toList ++ (58 :: (ktx l ++ (93 :: 32 :: (ptx u ++ s')))) := by
      injection h with _ h
      simpa using h
    obtain ⟨e1, e2⟩ := span_inj (isNm_parts g.1).2.2 (isNm_parts g'.1).2.2 rfl rfl h3
    injection e2 with _ e2
    obtain ⟨e3, e4⟩ := ktx_inj g.2.1.1 g'.2.1.1 (by simp) (by simp) e2
    injection e4 with _ e4
    injection e4 with _ e4
    obtain ⟨e5, e6⟩ := ptx_inj g.2.2 g'.2.2 h1 h2 e4
    exact ⟨by rw [str_of_codes e1, e3, e5], e6⟩
theorem ktx_eq {k k' : Kd} (g : k.good) (g' : k'.good) : decide (cS (ktx k) = cS (ktx k')) = decide (k = k') := by
  by_cases h : k = k'
  · rw [h]; simp
  · rw [decide_eq_false h, decide_eq_false fun z => h (ktx_inj (t := []) (t' := []) g g' (by simp) (by simp) (by rw [cS_inj z])).1]
theorem ptx_eq {t u : Dl.Tm} (g : t.gud) (g' : u.gud) : decide (cS (ptx t) = cS (ptx u)) = decide (t.flat = u.flat) := by
  by_cases h : t = u
  · rw [h]; simp
  · rw [decide_eq_false fun z => h (ptx_inj (s := []) (s' := []) g g' rfl rfl (by rw [cS_inj z])).1, decide_eq_false fun z => ?_]
    refine h (ptx_inj (s := []) (s' := []) g g' rfl rfl ?_).1
    have r1 := runT t [] [] []
    have r2 := runT u [] [] []
    rw [z] at r1
    have := congrArg Prod.fst (r1.symm.trans r2)
    simpa [clo] using this
theorem eqv_kd : ∀ k k' : Kd, PyData.eqv k.d.py k'.d.py = decide (k = k')
  | .lt i, .lt j => by
    simp only [Kd.d, D.py, PyData.eqv]
    by_cases h : i = j
    · subst h; simp
    · rw [decide_eq_false fun z => h (by injection z)]; simpa using h
  | .lt i, .pr a b => by simp [Kd.d, D.py, PyData.eqv]
  | .pr a b, .lt i => by simp [Kd.d, D.py, PyData.eqv]
  | .pr a b, .pr a' b' => by
    simp only [Kd.d, D.py, D.pyL, PyData.eqv, PyData.eqvAll, eqv_kd a a', eqv_kd b b', Bool.and_true]
    by_cases h1 : a = a' <;> by_cases h2 : b = b' <;> simp [h1, h2]
theorem eqv_wd : ∀ {v w : Wd}, v.gud → w.gud → PyData.eqv v.d.py w.d.py = decide (v = w)
  | .use, .use, _, _ => by simp [Wd.d, D.py, PyData.eqv]
  | .nm z, .nm y, _, _ => by
    simp only [Wd.d, D.py, PyData.eqv]
    by_cases h : z = y
    · subst h; simp
    · rw [decide_eq_false fun e => h (by injection e)]; simpa using h
  | .use, .nm z, _, g => by
    simp only [Wd.d, D.py, PyData.eqv]
    have := nm_use (show isNm z = true from g)
    rw [decide_eq_false (fun e => nomatch e)]
    exact beq_eq_false_iff_ne.mpr (Ne.symm this)
  | .nm z, .use, g, _ => by
    simp only [Wd.d, D.py, PyData.eqv]
    have := nm_use (show isNm z = true from g)
    rw [decide_eq_false (fun e => nomatch e)]
    exact beq_eq_false_iff_ne.mpr this
  | .use, .tk z k, _, _ => by simp [Wd.d, D.py, PyData.eqv]
  | .tk z k, .use, _, _ => by simp [Wd.d, D.py, PyData.eqv]
  | .nm y, .tk z k, _, _ => by simp [Wd.d, D.py, PyData.eqv]
  | .tk z k, .nm y, _, _ => by simp [Wd.d, D.py, PyData.eqv]
  | .tk z k, .tk y l, _, _ => by
    simp only [Wd.d, D.py, D.pyL, PyData.eqv, PyData.eqvAll, eqv_kd k l, Bool.and_true]
    by_cases h1 : z = y <;> by_cases h2 : k = l <;> simp [h1, h2]
theorem eqv_wdL : ∀ {vs ws : List Wd}, (∀ v ∈ vs, v.gud) → (∀ v ∈ ws, v.gud) → PyData.eqvAll (D.pyL (vs.map Wd.d)) (D.pyL (ws.map Wd.d)) = decide (vs = ws)
  | [], [], _, _ => rfl
  | [], _ :: _, _, _ => rfl
  | _ :: _, [], _, _ => rfl
  | v :: vs, w :: ws, g1, g2 => by
    simp only [List.map_cons, D.pyL, PyData.eqvAll, eqv_wd (g1 v (List.mem_cons_self ..)) (g2 w (List.mem_cons_self ..)), eqv_wdL (fun x hx => g1 x (List.mem_cons_of_mem _ hx)) (fun x hx => g2 x (List.mem_cons_of_mem _ hx))]
    by_cases h1 : v = w <;> by_cases h2 : vs = ws <;> simp [h1, h2]
theorem eqv_ds {t u : Dl.Tm} (g1 : t.gud) (g2 : u.gud) : eqv (.tup t.ds) (.tup u.ds) = decide (t.flat = u.flat) := by
  have := eqv_wdL (flat_gud g1) (flat_gud g2)
  unfold eqv Tm.ds
  simp only [D.py, PyData.eqv]
  exact this

end K10
set_option maxRecDepth 100000
set_option maxHeartbeats 2000000
namespace K10
open PySem PySem.Spec PyProof.Rows L2 Us Dl
def dLong : DSp := fun ds P _ => ds = [.hand] ∧ ∀ k : Kd, k.good → k.dep ≤ 16 → k.size ≤ 100 → P k.d
section
variable {P : Program} {w : World} {K : PySem.W.Frag} {mg : Str → Option Value} {base : Heap}
theorem ok_long (T : Txt K mg) (Dlaw_draw : DefOk P w K mg base CX0 1 "_law_draw" p_law_draw (toSp K dDraw)) : DefOk P w K mg base CX0 2 "_law_long_kind" p_law_long_kind (toSp K dLong) := by
  refine T.d_law_long_kind.dl sc_law_long_kind (fun _ _ _ _ _ _ us hl => match us, hl with | [_], _ => rfl) (fun ds Q E ⟨h, _⟩ => by rw [h]; rfl) (fun fa cdv A outer s H E hr => ⟨_, _, (dss_cons (ds_set (i := 1) sc_law_long_kind.nd rfl (Or.inl rfl) (de_call0 Dlaw_draw (hr.mono (by first | decide | omega)) (da_cons (dv 0) (da_cons de_int da_nil))))
    (dss_cons (ds_for (vs := [2]) PassesOwn.never rfl (di_range1 rfl T.f_range (da_cons (de_op op_add l_int de_int (de_call0 Dlaw_draw (hr.mono (by first | decide | omega)) (da_cons (dv 0) (da_cons de_int da_nil)))) da_nil)) (dg_name (i := 2) (by decide) sc_law_long_kind.nd rfl (Or.inl rfl))
      (dss_cons (ds_set (i := 3) sc_law_long_kind.nd rfl (Or.inl rfl) (de_tup (da_cons (de_call0 Dlaw_draw (hr.mono (by first | decide | omega)) (da_cons (dv 0) (da_cons de_int da_nil))) (da_cons (de_call0 Dlaw_draw (hr.mono (by first | decide | omega)) (da_cons (dv 0) (da_cons de_int da_nil))) da_nil))))
      (dss_one (ds_set (i := 1) sc_law_long_kind.nd rfl (Or.inl rfl) (de_tup (da_cons (de_ix (de_n (dn_lst (da_cons (dv 3) (da_cons (de_tup (da_cons (dv 3) (da_cons (de_ixV (pv 3) de_int) da_nil))) (da_cons (de_tup (da_cons (de_ixV (pv 3) de_int) (da_cons (dv 3) da_nil))) da_nil))))) (de_call0 Dlaw_draw (hr.mono (by first | decide | omega)) (da_cons (dv 0) (da_cons de_int da_nil)))) (da_cons (dv 1) da_nil)))))))
    (dss_one (ds_ret (dv 1))))), fun ds Q E h => ?_⟩)
  obtain ⟨rfl, q⟩ := h
  walk_at "d"
  refine ⟨26, rfl, by decide, by decide, fun d0 d00 d01 => ?_⟩
  walk_at "d"
  refine ⟨5, rfl, by decide, by decide, fun d1 d10 d11 => ?_⟩
  walk_at "d"
  refine ⟨by omega, ?_⟩
  walk_at "d"
  obtain ⟨n, hn, hn2⟩ : ∃ n, (10 + d1).toNat = n ∧ n ≤ 14 := ⟨_, rfl, by omega⟩
  rw [hn]
  refine for_at (rngD 0 n) (fun i s => i ≤ n ∧ ∃ (k : Kd) (s2 s3 : Sl), s = [.val .hand, .val k.d, s2, s3] ∧ k.good ∧ k.dep ≤ i + 2 ∧ k.size ≤ 1 + 6 * i ∧ s2.isOwn = false ∧ s3.isOwn = false) ?_ ?_ _ ⟨Nat.zero_le _, .lt d0, .no, .no, rfl, ⟨d00, by omega⟩, Nat.zero_le _, Nat.le_refl _, rfl, rfl⟩
  · rintro s ⟨h1, k, s2, s3, rfl, kg, kd, ks, _, _⟩
    have el : (rngD 0 n).length = n := by unfold rngD; simp
    rw [el] at kd ks
    walk_at "d"
    exact q k kg (by omega) (by omega)
  · rintro i d r s hd ⟨h1, k, s2, s3, rfl, kg, kd, ks, o2, o3⟩ ih
    obtain ⟨hi, rfl⟩ := rngD_at hd
    have z0 : (1000 : Nat) ≤ sizeLine := by decide
    have fin : ∀ (l : Kd) (s2 s3 : Sl), s2.isOwn = false → s3.isOwn = false → l.good → l.dep ≤ 2 → l.size ≤ 5 → _ := fun l s2 s3 a b lg ld ls => ih [.val .hand, .val (Kd.pr l k).d, s2, s3] ⟨hi, .pr l k, s2, s3, rfl, ⟨lg, kg⟩, by show max l.dep k.dep + 1 ≤ _; omega, by show l.size + k.size + 1 ≤ _; omega, a, b⟩
    walk_at "r"
    walk_at "d"
    refine ⟨26, rfl, by decide, by decide, fun a a0 a1 => ?_⟩
    walk_at "d"
    refine ⟨26, rfl, by decide, by decide, fun b b0 b1 => ?_⟩
    walk_at "d"
    refine ⟨by show 2 ≤ _; omega, ?_⟩
    (repeat ((conv => whnf); first | (refine And.intro (by first | assumption | exact True.intro | rfl | decide | exact Nat.le_of_ble_eq_true rfl | omega) ?_))); (try (conv => whnf))
    refine ⟨3, rfl, by decide, by decide, fun e e0 e1 => ?_⟩
    walk_at "d"
    have i0 : (Kd.lt a).good := ⟨a0, by omega⟩
    have i1 : (Kd.lt b).good := ⟨b0, by omega⟩
    have hl : (Kd.pr (.lt a) (.lt b)).good := ⟨i0, i1⟩
    rcases (show e = 0 ∨ e = 1 ∨ e = 2 by omega) with rfl | rfl | rfl
    · walk_at "r"
      (repeat ((conv => whnf); first | (refine And.intro (by first | assumption | exact True.intro | rfl | decide | exact Nat.le_of_ble_eq_true rfl | omega) ?_))); (try (conv => whnf))
      exact fin (.pr (.lt a) (.lt b)) _ _ rfl rfl hl (Nat.le_of_ble_eq_true rfl) (Nat.le_of_ble_eq_true rfl)
    · walk_at "r"
      (repeat ((conv => whnf); first | (refine And.intro (by first | assumption | exact True.intro | rfl | decide | exact Nat.le_of_ble_eq_true rfl | omega) ?_))); (try (conv => whnf))
      exact fin (.pr (.pr (.lt a) (.lt b)) (.lt a)) _ _ rfl rfl ⟨hl, i0⟩ (Nat.le_of_ble_eq_true rfl) (Nat.le_of_ble_eq_true rfl)
    · walk_at "r"
      (repeat ((conv => whnf); first | (refine And.intro (by first | assumption | exact True.intro | rfl | decide | exact Nat.le_of_ble_eq_true rfl | omega) ?_))); (try (conv => whnf))
      exact fin (.pr (.lt b) (.pr (.lt a) (.lt b))) _ _ rfl rfl ⟨i1, hl⟩ (Nat.le_of_ble_eq_true rfl) (Nat.le_of_ble_eq_true rfl)
end

end K10
set_option maxRecDepth 100000
set_option maxHeartbeats 2000000
namespace K10
open PySem PySem.Spec PyProof.Rows L2 Us Dl
def absI (x : Int) : Int := if x < 0 then -x else x
theorem absI_nn (x : Int) : 0 ≤ absI x := by unfold absI; split <;> omega
def spHand (K : PySem.W.Frag) : Sp := fun vs H Q _ => ∃ (a : Addr) (ns : List Int), vs = [.ref a] ∧ SqL K H a (ns.map V.int) ∧ ns.length ≤ 63 ∧ ∀ B' H' p, Gr [] H H B' H' → H p = none → HandAt B' H' p → Q (.ref p) H'
section
variable {P : Program} {w : World} {K : PySem.W.Frag} {mg : Str → Option Value} {base : Heap}
theorem ok_hand (T : Txt K mg) : DefOk P w K mg base CX0 1 "_law_hand" p_law_hand (spHand K) := by
  refine T.d_law_hand.ok sc_law_hand (fun _ _ _ _ _ _ us hl => match us, hl with | [_], _ => rfl) (fun vs H Q E h => ?_) (fun f cdv A outer s H vs Q E hr h => ?_)
  · obtain ⟨a, ns, rfl, _⟩ := h
    rfl
  · obtain ⟨a, ns, rfl, hL, hn, k⟩ := h
    refine ⟨_, PSs.nox (pss_cons (ps_setLc (i := 1) (own := [("_law_cell", 2)]) (g := gName 2) (tt := tYes) rfl sc_law_hand.nd rfl rfl (sw_true rfl rfl rfl (by decide +kernel)) (pi_list (pe_slice sl_list (pv 0) po_none (po_some pe_int))) (blkOk_by (own := [("_law_cell", 2)]) (N := n_law_hand) (sc := defScope s_law_hand) (by decide +kernel)) (fun _ _ _ _ _ => (pg_name (i := 2) sc_law_hand.nd rfl (Or.inl rfl))) (fun _ _ _ _ _ => pts_nil) (fun _ _ _ _ _ => (pe_callB call_absU (by rfl) T.f_abs (by decide +kernel) (pa_cons (pe_callTy call_intU (by rfl) T.f_int (by decide +kernel) (pa_cons (pv 2) pa_nil)) pa_nil))))
    (pss_one (ps_ret (pe_lst (pa_cons (pv 1) (pa_cons pe_int (pa_cons pe_int (pa_cons (pe_op op_add pe_int (pe_callB call_lenU (by rfl) T.f_len (by decide +kernel) (pa_cons (pv 1) pa_nil))) (pa_cons pe_int pa_nil))))))))), ?_⟩
    have S0 : Same H H := Same.refl H
    walk_at "go"
    refine ⟨a, _, rfl, hL, fun q hq => ?_⟩
    have ec : ∃ ms : List Int, cutV (ns.map V.int) none (some 63) = ms.map V.int ∧ ms.length ≤ 63 := by
      unfold cutV
      rw [← List.map_drop, ← List.map_take]
      refine ⟨_, rfl, ?_⟩
      rw [List.length_take, List.length_drop]
      omega
    obtain ⟨ms, ec, hms⟩ := ec
    rw [ec]
    have g1 : Gr [] H H (upd H q (.lst (ms.map V.int))) (upd H q (.lst (ms.map V.int))) := Gr.new S0 hq
    refine ⟨q, rfl, ⟨_, SqL.of upd_same⟩, fun D hD => lc_list (K := K) (a := q) (xs := ms.map V.int) (fun i H' => Gr [] H H (upd H q (.lst (ms.map V.int))) H' ∧ H' D = some (.lst (((ms.take i).map absI).map V.int)))
      ⟨g1.trans (Gr.cell g1.bh hD), upd_same⟩ (fun i H' _ h => SqL.of (h.1.bh _ _ upd_same)) ?_ ?_⟩
    · rintro i x H' hx ⟨g, hDl⟩
      obtain ⟨z, hz, rfl⟩ : ∃ z, ms[i]? = some z ∧ x = V.int z := by
        rw [List.getElem?_map] at hx
        cases e : ms[i]? with
        | none => rw [e] at hx; cases hx
        | some z => rw [e] at hx; exact ⟨z, rfl, (Option.some.inj hx).symm⟩
      walk_at "go"
      refine ⟨rfl, ?_⟩
      walk_at "go"
      refine i_abs ?_
      have hi : i < ms.length := (List.getElem?_eq_some_iff.mp hz).1
      have bD := bfresh g1.bh hD
      refine ⟨_, hDl, sz5' (by simp only [List.length_map, List.length_take]; omega), g.setN (g1.fresh hD) bD, ?_⟩
      rw [upd_same, List.take_add_one, hz]
      simp [absI]
    · rintro H' ⟨g, hDl⟩
      rw [show (ms.map V.int).length = ms.length by simp, List.take_length] at hDl
      have bD := bfresh g1.bh hD
      have g2 := g.keepN (g1.fresh hD) hDl bD
      walk_at "go"
      refine i_lenL (SqL.of hDl) ?_
      walk_at "go"
      refine ⟨sz5 (by simp), fun p hp => ?_⟩
      have g3 := g2.trans (Gr.cell (o := .lst [.ref D, .int 0, .int 0, .int (1 + (((ms.map absI).map V.int).length : Int)), .int 0]) g2.bh hp)
      refine k _ _ p g3 (g2.fresh hp) ⟨bfresh g2.bh hp, D, ms.map absI, 0, 0, _, 0, upd_same, upd_same, ?_, by decide, by decide, by omega, ?_, by decide⟩
      · intro x hx
        obtain ⟨y, _, rfl⟩ := List.mem_map.mp hx
        exact absI_nn y
      · simp only [List.length_map]; omega
end

end K10
set_option maxRecDepth 100000
set_option maxHeartbeats 2000000
namespace K10
open PySem PySem.Spec PyProof.Rows L2 Us Dl
def tsiN : Nat → D → Bool
  | 0, _ => false
  | n + 1, d => match d with
    | .int _ => true
    | .str _ => true
    | .non => true
    | .bl _ => true
    | .tup xs => decide (xs.length ≤ 1000) && xs.all (tsiN n)
    | .lst xs => decide (xs.length ≤ 1000) && xs.all (tsiN n)
    | .dct [.inr _] [.int _] => decide (0 < n)
    | _ => false
theorem flat_ints (ks : List Key) (f : Key → Int) : (fD ks fun k => D.int (f k)).all flatD = true := List.all_eq_true.mpr fun x hx => by obtain ⟨y, _, rfl⟩ := List.mem_map.mp hx; rfl
theorem nd_ints (f : Key → Int) : ∀ ks : List Key, D.ndL (fD ks fun k => D.int (f k)) = true
  | [] => rfl
  | k :: ks => nd_ints f ks
theorem fD_at {ks : List Key} {f : Key → D} {j : Nat} {k : Key} {d : D} (h : ks[j]? = some k) (h2 : (fD ks f)[j]? = some d) : d = f k := by
  unfold fD at h2
  rw [List.getElem?_map, h] at h2
  exact (Option.some.inj h2).symm
def dIsEq (n : Nat) : DSp := fun ds P _ => ∃ d : D, ds = [d, d] ∧ tsiN n d = true ∧ P (.bl true)
section
variable {P : Program} {w : World} {K : PySem.W.Frag} {mg : Str → Option Value} {base : Heap}
theorem is_no (T : Txt K mg) : DefOk P w K mg base CX0 1 "_law_is" p_law_is (toSp K (dIsEq 0)) :=
  T.d_law_is.ok sc_law_is (fun _ _ _ _ _ _ us hl => match us, hl with | [_, _], _ => rfl) (fun vs H Q E ⟨a, B, ds, Pp, Xx, _, _, _, ⟨_, _, h, _⟩, _⟩ => nomatch h) (fun fa cdv A outer s H vs Q E hr ⟨a, B, ds, Pp, Xx, _, _, _, ⟨_, _, h, _⟩, _⟩ => nomatch h)
theorem is_step {n : Nat} (T : Txt K mg) (Dlaw_is : DefOk P w K mg base CX0 (n + 1) "_law_is" p_law_is (toSp K (dIsEq n))) : DefOk P w K mg base CX0 (n + 2) "_law_is" p_law_is (toSp K (dIsEq (n + 1))) := by
  refine T.d_law_is.dl sc_law_is (fun _ _ _ _ _ _ us hl => match us, hl with | [_, _], _ => rfl) (fun ds Q E ⟨d, h, _⟩ => by rw [h]; rfl) (fun fa cdv A outer s H E hr => ⟨_, _, (dss_cons (ds_if (dt_val (de_isi2 (cs := []) (n := .tuple) (m := .list) (fun _ h => nomatch h) T.f_isinstance T.f_tuple (by decide +kernel) T.f_list (by decide +kernel) (dv 1)))
      (dss_cons (ds_if (DPW.pt (dw_or (dt_cmp op_ne l_neS (de_isi (cs := []) (n := .tuple) (fun _ h => nomatch h) T.f_isinstance T.f_tuple (by decide +kernel) (dv 0)) (de_isi (cs := []) (n := .tuple) (fun _ h => nomatch h) T.f_isinstance T.f_tuple (by decide +kernel) (dv 1))) (dw_or1 (dt_cmp op_ne l_neS (de_isi (cs := []) (n := .list) (fun _ h => nomatch h) T.f_isinstance T.f_list (by decide +kernel) (dv 0)) (de_isi (cs := []) (n := .list) (fun _ h => nomatch h) T.f_isinstance T.f_list (by decide +kernel) (dv 1))))))
        (dss_one (ds_ret de_bl))
        dss_nil)
      (dss_one (ds_ret (de_and (de_cmp op_eq l_eqS (de_b1V (len_k rfl) l_len T.f_len (pv 0)) (de_b1V (len_k rfl) l_len T.f_len (pv 1))) (de_one (de_b1 (all_k rfl rfl) l_all T.f_all (de_n (dn_lcm (own := [("_law_k", 2)]) rfl sc_law_is.nd (di_range1 rfl T.f_range (da_cons (de_b1V (len_k rfl) l_len T.f_len (pv 1)) da_nil)) (blkOk_by (own := [("_law_k", 2)]) (N := n_law_is) (sc := defScope s_law_is) (by decide +kernel)) (fun _ _ _ _ _ => (dg_name (i := 2) (by decide) sc_law_is.nd rfl (Or.inl rfl))) (fun _ _ _ _ _ => dts_nil) (fun _ _ _ _ _ => (de_call0 Dlaw_is (hr.mono (by first | decide | omega)) (da_cons (de_ixV (pv 0) (dv 2)) (da_cons (de_ixV (pv 1) (dv 2)) da_nil))))))))))))
      dss_nil)
    (dss_cons (ds_if (dt_val (de_isi (cs := []) (n := .dict) (fun _ h => nomatch h) T.f_isinstance T.f_dict (by decide +kernel) (dv 1)))
      (dss_one (ds_ret (de_and (de_isi (cs := []) (n := .dict) (fun _ h => nomatch h) T.f_isinstance T.f_dict (by decide +kernel) (dv 0)) (de_and (de_cmp (op_eq_dictA (Nat.lt_of_succ_lt (hu_of hr))) l_eqKD (dv 0) (dv 1)) (de_one (de_lock 1 (de_b1 (all_k rfl rfl) l_all T.f_all (de_n (dn_lcm (own := [("_law_key", 3)]) rfl sc_law_is.nd (di_keys (pv 1)) (blkOk_by (own := [("_law_key", 3)]) (N := n_law_is) (sc := defScope s_law_is) (by decide +kernel)) (fun _ _ _ _ _ => (dg_name (i := 3) (by decide) sc_law_is.nd rfl (Or.inl rfl))) (fun _ _ _ _ _ => dts_nil) (fun _ _ _ _ _ => (de_call0 Dlaw_is (hr.mono (by first | decide | omega)) (da_cons (de_dgetV (hu_of hr) (pv 0) (dv 3)) (da_cons (de_dgetV (hu_of hr) (pv 1) (dv 3)) da_nil)))))))))))))
      dss_nil)
    (dss_one (ds_ret (de_and (de_cmp op_eq l_eqS (de_isi (cs := []) (n := .bool) (fun _ h => nomatch h) T.f_isinstance T.f_bool (by decide +kernel) (dv 0)) (de_isi (cs := []) (n := .bool) (fun _ h => nomatch h) T.f_isinstance T.f_bool (by decide +kernel) (dv 1))) (de_one (de_cmp op_eq l_eqS (dv 0) (dv 1)))))))), fun ds Q E h => ?_⟩)
  obtain ⟨d, rfl, hd, q⟩ := h
  have z0 : (2000 : Nat) ≤ sizeLine := by decide
  cases d with
  | int i =>
    (repeat ((conv => whnf); first | (refine And.intro (by first | assumption | exact True.intro | rfl | decide | exact Nat.le_of_ble_eq_true rfl | omega) ?_))); (try (conv => whnf))
    rw [decide_eq_true rfl]
    exact q
  | str z =>
    (repeat ((conv => whnf); first | (refine And.intro (by first | assumption | exact True.intro | rfl | decide | exact Nat.le_of_ble_eq_true rfl | omega) ?_))); (try (conv => whnf))
    rw [decide_eq_true rfl]
    exact q
  | non =>
    (repeat ((conv => whnf); first | (refine And.intro (by first | assumption | exact True.intro | rfl | decide | exact Nat.le_of_ble_eq_true rfl | omega) ?_))); (try (conv => whnf))
    exact q
  | bl b =>
    (repeat ((conv => whnf); first | (refine And.intro (by first | assumption | exact True.intro | rfl | decide | exact Nat.le_of_ble_eq_true rfl | omega) ?_))); (try (conv => whnf))
    rw [show (b == b) = true by cases b <;> rfl]
    exact q
  | dct ks es =>
    obtain ⟨z, i, rfl, rfl, hn⟩ : ∃ z i, ks = [.inr z] ∧ es = [.int i] ∧ 0 < n := by
      match ks, es, hd with
      | [.inr z], [.int i], hd => exact ⟨z, i, rfl, rfl, of_decide_eq_true hd⟩
    obtain ⟨m, rfl⟩ : ∃ m, n = m + 1 := ⟨n - 1, by omega⟩
    have l1 : lkD [(.inr z : Key)] [.int i] (.inr z) = some (.int i) := by
      show lkD [(.inr z : Key)] (fD [(.inr z : Key)] fun _ => D.int i) (.inr z) = _
      rw [lk_fD, if_pos (List.mem_singleton.mpr rfl)]
    have hf : [D.int i] = fD [(.inr z : Key)] fun _ => D.int i := rfl
    (repeat ((conv => whnf); first | (refine And.intro (by first | assumption | exact True.intro | rfl | decide | exact Nat.le_of_ble_eq_true rfl | omega) ?_))); (try (conv => whnf))
    refine ⟨⟨rfl, rfl, rfl, fun j k d h1 h2 => ?_⟩, ?_⟩
    · match j, h1, h2 with
      | 0, h1, h2 => cases h1; cases h2; rw [hf, lk_fD, if_pos (List.mem_singleton.mpr rfl)]
    walk_at "d"
    refine ⟨rfl, [Sl.rd [.inr z] [.int i], Sl.lck [.inr z] [.int i], Sl.no, Sl.no], ⟨rfl, fun j hj => ?_⟩, rfl, ?_⟩
    · match j, hj with
      | 0, _ => exact .inr (.inr ⟨_, _, rfl, rfl, rfl⟩)
      | 1, h => exact absurd rfl h
      | 2, _ => exact .inl rfl
      | 3, _ => exact .inl rfl
      | j + 4, _ => exact .inl rfl
    (repeat ((conv => whnf); first | (refine And.intro (by first | assumption | exact True.intro | rfl | decide | exact Nat.le_of_ble_eq_true rfl | omega) ?_) | (rw [keyD_kD]) | (rw [l1]))); (try (conv => whnf))
    refine ⟨.int i, rfl, rfl, ?_⟩
    (repeat ((conv => whnf); first | (refine And.intro (by first | assumption | exact True.intro | rfl | decide | exact Nat.le_of_ble_eq_true rfl | omega) ?_))); (try (conv => whnf))
    refine ⟨[true], rfl, rfl, rfl, ?_⟩
    exact q
  | tup xs =>
    have hd : (decide (xs.length ≤ 1000) && xs.all (tsiN n)) = true := hd
    rw [Bool.and_eq_true] at hd
    have hl := of_decide_eq_true hd.1
    have hx := List.all_eq_true.mp hd.2
    walk_at "r"
    walk_at "d"
    rw [decide_eq_true (rfl : (xs.length : Int) = xs.length)]
    walk_at "d"
    refine ⟨⟨by omega, by omega⟩, ?_⟩
    rw [Int.toNat_natCast]
    refine lc_at (rngD 0 xs.length) (fun i acc s => i ≤ xs.length ∧ acc = List.replicate i (D.bl true) ∧ s = [Sl.val (.tup xs), Sl.val (.tup xs), Sl.no, Sl.no]) ?_ ?_ _ _ ⟨Nat.zero_le _, rfl, rfl⟩
    · rintro acc s ⟨_, rfl, rfl⟩
      walk_at "d"
      refine ⟨List.replicate (rngD 0 xs.length).length true, by simp, ?_⟩
      rw [show (List.replicate (rngD 0 xs.length).length true).all id = true by simp]
      exact q
    · rintro i d r acc s hd' ⟨hi, rfl, rfl⟩ ih
      obtain ⟨hil, rfl⟩ := rngD_at hd'
      rw [Int.zero_add]
      obtain ⟨x, hxi⟩ : ∃ x, xs[i]? = some x := ⟨_, List.getElem?_eq_getElem hil⟩
      have a1 : atI xs (i : Int) = some x := atI_nat hxi
      have mx := List.mem_of_getElem? hxi
      have nx := ih (List.replicate (i + 1) (D.bl true)) _ ⟨hil, rfl, rfl⟩
      have e1 : List.replicate i (D.bl true) ++ [D.bl true] = List.replicate (i + 1) (D.bl true) := by rw [List.replicate_succ']
      (repeat ((conv => whnf); first | (refine And.intro (by first | assumption | exact True.intro | rfl | decide | exact Nat.le_of_ble_eq_true rfl | omega) ?_) | (rw [a1]))); (try (conv => whnf))
      refine ⟨x, rfl, hx x mx, ?_⟩
      walk_at "d"
      refine ⟨by rw [List.length_replicate]; omega, ?_⟩
      rw [e1]
      exact nx
  | lst xs =>
    have hd : (decide (xs.length ≤ 1000) && xs.all (tsiN n)) = true := hd
    rw [Bool.and_eq_true] at hd
    have hl := of_decide_eq_true hd.1
    have hx := List.all_eq_true.mp hd.2
    walk_at "r"
    walk_at "d"
    rw [decide_eq_true (rfl : (xs.length : Int) = xs.length)]
    walk_at "d"
    refine ⟨⟨by omega, by omega⟩, ?_⟩
    rw [Int.toNat_natCast]
    refine lc_at (rngD 0 xs.length) (fun i acc s => i ≤ xs.length ∧ acc = List.replicate i (D.bl true) ∧ s = [Sl.val (.lst xs), Sl.val (.lst xs), Sl.no, Sl.no]) ?_ ?_ _ _ ⟨Nat.zero_le _, rfl, rfl⟩
    · rintro acc s ⟨_, rfl, rfl⟩
      walk_at "d"
      refine ⟨List.replicate (rngD 0 xs.length).length true, by simp, ?_⟩
      rw [show (List.replicate (rngD 0 xs.length).length true).all id = true by simp]
      exact q
    · rintro i d r acc s hd' ⟨hi, rfl, rfl⟩ ih
      obtain ⟨hil, rfl⟩ := rngD_at hd'
      rw [Int.zero_add]
      obtain ⟨x, hxi⟩ : ∃ x, xs[i]? = some x := ⟨_, List.getElem?_eq_getElem hil⟩
      have a1 : atI xs (i : Int) = some x := atI_nat hxi
      have mx := List.mem_of_getElem? hxi
      have nx := ih (List.replicate (i + 1) (D.bl true)) _ ⟨hil, rfl, rfl⟩
      have e1 : List.replicate i (D.bl true) ++ [D.bl true] = List.replicate (i + 1) (D.bl true) := by rw [List.replicate_succ']
      (repeat ((conv => whnf); first | (refine And.intro (by first | assumption | exact True.intro | rfl | decide | exact Nat.le_of_ble_eq_true rfl | omega) ?_) | (rw [a1]))); (try (conv => whnf))
      refine ⟨x, rfl, hx x mx, ?_⟩
      walk_at "d"
      refine ⟨by rw [List.length_replicate]; omega, ?_⟩
      rw [e1]
      exact nx
  | ptup xs => cases hd
  | ins c ns ds => cases hd
  | hand => cases hd
theorem ok_is (T : Txt K mg) : ∀ n, DefOk P w K mg base CX0 (n + 1) "_law_is" p_law_is (toSp K (dIsEq n))
  | 0 => is_no T
  | n + 1 => is_step T (ok_is T n)
end

end K10
set_option maxRecDepth 100000
set_option maxHeartbeats 2000000
namespace K10
open PySem PySem.Spec PyProof.Rows L2 Us Dl
def spLaw (K : PySem.W.Frag) : Sp := fun vs H Q _ => ∃ (a : Addr) (ns : List Int), vs = [.ref a] ∧ SqL K H a (ns.map V.int) ∧ ns.length ≤ 63 ∧ ∀ H', Q (.bl true) H'
/-! what _law_is compares here -/
theorem tsi_kd : ∀ (k : Kd) (n : Nat), k.dep < n → tsiN n k.d = true
  | .lt i, n + 1, _ => rfl
  | .pr a b, n + 1, h => by
    have h1 := tsi_kd a n (by have : max a.dep b.dep + 1 < n + 1 := h; omega)
    have h2 := tsi_kd b n (by have : max a.dep b.dep + 1 < n + 1 := h; omega)
    simp [Kd.d, tsiN, h1, h2]
theorem tsi_wd (v : Wd) (n : Nat) (h : v.gud) (hn : 32 ≤ n) : tsiN n v.d = true := by
  obtain ⟨m, rfl⟩ : ∃ m, n = m + 1 := ⟨n - 1, by omega⟩
  cases v with
  | use => rfl
  | nm z => rfl
  | tk z k =>
    have h1 := tsi_kd k m (by have := h.2.2.1; omega)
    have h2 : tsiN m (.str z) = true := by obtain ⟨j, rfl⟩ : ∃ j, m = j + 1 := ⟨m - 1, by omega⟩; rfl
    simp [Wd.d, tsiN, h1, h2]
theorem tsi_ds (t : Dl.Tm) (n : Nat) (h : t.gud) (hs : t.size ≤ 1000) (hn : 33 ≤ n) : tsiN n (.tup t.ds) = true := by
  obtain ⟨m, rfl⟩ : ∃ m, n = m + 1 := ⟨n - 1, by omega⟩
  unfold tsiN
  rw [Bool.and_eq_true_iff]
  refine ⟨decide_eq_true (by rw [t.ds_len]; exact hs), List.all_eq_true.mpr fun x hx => ?_⟩
  obtain ⟨v, hv, rfl⟩ := List.mem_map.mp hx
  exact tsi_wd v m (flat_gud h v hv) (by omega)
theorem tsi_str (z : Str) (n : Nat) (hn : 0 < n) : tsiN n (.str z) = true := by
  obtain ⟨m, rfl⟩ : ∃ m, n = m + 1 := ⟨n - 1, by omega⟩
  rfl
theorem plainL_iff : ∀ {xs : List D}, D.plainL xs = true ↔ ∀ x ∈ xs, x.plain = true
  | [] => by simp [D.plainL]
  | x :: xs => by
    unfold D.plainL
    rw [Bool.and_eq_true, plainL_iff]
    simp
theorem depL_le : ∀ {xs : List D} {n : Nat}, (∀ x ∈ xs, x.dep ≤ n) → D.depL xs ≤ n
  | [], n, _ => by simp [D.depL]
  | x :: xs, n, h => by
    have h1 := h x (List.mem_cons_self ..)
    have h2 := depL_le fun y hy => h y (List.mem_cons_of_mem x hy)
    show max _ _ ≤ n
    omega
theorem ok_kd {k : Kd} (h : k.dep ≤ 30) : k.d.ok = true := by
  unfold D.ok
  rw [plain_kd, dep_kd, decide_eq_true (by omega)]
  rfl
theorem plain_wd {v : Wd} (h : v.gud) : v.d.plain = true := (Bool.and_eq_true_iff.mp (ok_wd v h)).1
theorem dep_wd {v : Wd} (h : v.gud) : v.d.dep ≤ 32 := by
  cases v with
  | use => exact Nat.zero_le _
  | nm z => exact Nat.zero_le _
  | tk z k =>
    have := h.2.2.1
    simp [Wd.d, D.dep, D.depL, dep_kd]
    omega
theorem ok_ds {t : Dl.Tm} (h : t.gud) : (D.tup t.ds).ok = true := by
  have fg := flat_gud h
  have h1 : D.plainL t.ds = true := plainL_iff.mpr fun x hx => by obtain ⟨v, hv, rfl⟩ := List.mem_map.mp hx; exact plain_wd (fg v hv)
  have h2 : D.depL t.ds ≤ 32 := depL_le fun x hx => by obtain ⟨v, hv, rfl⟩ := List.mem_map.mp hx; exact dep_wd (fg v hv)
  unfold D.ok
  rw [show (D.tup t.ds).plain = D.plainL t.ds from rfl, h1, show (D.tup t.ds).dep = D.depL t.ds + 1 from rfl, decide_eq_true (by omega)]
  rfl
section
variable {P : Program} {w : World} {K : PySem.W.Frag} {mg : Str → Option Value} {base : Heap}
theorem ok_law {N : Nat} (hN : N = 36) {M : Nat} (hM : M = 31) (T : Txt K mg) (Dlaw_hand : DefOk P w K mg base CX0 1 "_law_hand" p_law_hand (spHand K)) (Dlaw_long_kind : DefOk P w K mg base CX0 2 "_law_long_kind" p_law_long_kind (toSp K dLong))
    (Dlaw_is : DefOk P w K mg base CX0 (N + 1) "_law_is" p_law_is (toSp K (dIsEq N))) (Dkind_text : DefOk P w K mg base (L2.CX P w) 5 "kind_text" p_kind_text (toSp K dKText)) (Dlaw_kind_text : DefOk P w K mg base CX0 (M + 1) "_law_kind_text" p_law_kind_text (toSp K (dKTextL M)))
    (Dread_kind : DefOk P w K mg base (L2.CX P w) 6 "read_kind" p_read_kind (toSp K dReadK)) (Dprogram_text : DefOk P w K mg base (L2.CX P w) 6 "program_text" p_program_text (toSp K dPText)) (Dlaw_text : DefOk P w K mg base CX0 (M + 2) "_law_text" p_law_text (toSp K dLText)) (Dread_program : DefOk P w K mg base (L2.CX P w) 6 "read_program" p_read_program (toSp K dReadP))
    (Dlaw_any_kind : DefOk P w K mg base CX0 6 "_law_any_kind" p_law_any_kind (toSp K (dAnyKind 5))) (Dlaw_kind : DefOk P w K mg base CX0 5 "_law_kind" p_law_kind (toSp K (dKind 4))) (Dlaw_known : DefOk P w K mg base CX0 5 "_law_known" p_law_known (toSp K dKnown)) (Dlaw_some_program : DefOk P w K mg base CX0 9 "_law_some_program" p_law_some_program (toSp K dProg)) (Dlaw_loose : DefOk P w K mg base CX0 8 "_law_loose" p_law_loose (toSp K (dLoose 4)))
    {f : Addr} {fd : FuncData} (F : FunD K "law" "law" (defArgs s_law) (defBody s_law) (defScope s_law) [] [] f fd) : FnOk P w K mg base CX0 38 f fd p_law (spLaw K) := by
  refine F.ok sc_law (fun vs H Q E h => ?_) (fun cdv A outer s H vs Q E hr h => ?_)
  · obtain ⟨a, ns, rfl, _⟩ := h
    rfl
  · obtain ⟨sc, ns, rfl, hL, hn, k⟩ := h
    have D1 : ∃ ts t, DPSs (cxOf CX0 P w K mg base n_law "law" (defScope s_law) f cdv A outer s H E).nox K WXn ((defBody s_law).tail) ts t ∧ ∀ D0 : EndsD, D0.rt (.bl true) → t D0 (Sl.no :: Sl.val .hand :: List.replicate (n_law.length - 2) Sl.no) := ⟨_, _, (dss_cons (ds_set (i := 2) sc_law.nd rfl (Or.inl rfl) (de_call0 Dlaw_long_kind (hr.mono (by first | decide | omega)) (da_cons (dv 1) da_nil)))
    (dss_cons (ds_set (i := 3) sc_law.nd rfl (Or.inl rfl) (de_tup (da_cons (de_tup (da_cons de_str (da_cons (dv 2) da_nil))) (da_cons de_str da_nil))))
    (dss_cons (ds_if (DPW.pt (dw_or (dt_not (dt_val (de_call0 Dlaw_is (hr.mono (by first | decide | omega)) (da_cons (de_callN Dkind_text (hr.mono (by first | decide | omega)) (da_cons (dv 2) da_nil)) (da_cons (de_call0 Dlaw_kind_text (hr.mono (by first | decide | omega)) (da_cons (dv 2) da_nil)) da_nil))))) (dw_or1 (dt_not (dt_val (de_call0 Dlaw_is (hr.mono (by first | decide | omega)) (da_cons (de_callN Dread_kind (hr.mono (by first | decide | omega)) (da_cons (de_call0 Dlaw_kind_text (hr.mono (by first | decide | omega)) (da_cons (dv 2) da_nil)) da_nil)) (da_cons (dv 2) da_nil))))))))
      (dss_one (ds_ret de_bl))
      dss_nil)
    (dss_cons (ds_if (DPW.pt (dw_or (dt_not (dt_val (de_call0 Dlaw_is (hr.mono (by first | decide | omega)) (da_cons (de_callN Dprogram_text (hr.mono (by first | decide | omega)) (da_cons (dv 3) da_nil)) (da_cons (de_call0 Dlaw_text (hr.mono (by first | decide | omega)) (da_cons (dv 3) da_nil)) da_nil))))) (dw_or1 (dt_not (dt_val (de_call0 Dlaw_is (hr.mono (by first | decide | omega)) (da_cons (de_callN Dread_program (hr.mono (by first | decide | omega)) (da_cons (de_call0 Dlaw_text (hr.mono (by first | decide | omega)) (da_cons (dv 3) da_nil)) da_nil)) (da_cons (dv 3) da_nil))))))))
      (dss_one (ds_ret de_bl))
      dss_nil)
    (dss_cons (ds_for (vs := [4]) PassesOwn.never rfl (di_range1 rfl T.f_range (da_cons de_int da_nil)) (dg_name (i := 4) (by decide) sc_law.nd rfl (Or.inl rfl))
      (dss_cons (ds_par (i := 5) (j := 6) rfl sc_law.nd rfl rfl (by decide) rfl rfl (da_cons (de_call0 Dlaw_any_kind (hr.mono (by first | decide | omega)) (da_cons (dv 1) (da_cons de_int da_nil))) (da_cons (de_call0 Dlaw_kind (hr.mono (by first | decide | omega)) (da_cons (dv 1) (da_cons de_int da_nil))) da_nil)) rfl)
      (dss_cons (ds_if (DPW.pt (dw_or (dt_not (dt_val (de_call0 Dlaw_is (hr.mono (by first | decide | omega)) (da_cons (de_callN Dkind_text (hr.mono (by first | decide | omega)) (da_cons (dv 5) da_nil)) (da_cons (de_call0 Dlaw_kind_text (hr.mono (by first | decide | omega)) (da_cons (dv 5) da_nil)) da_nil))))) (dw_or1 (dt_not (dt_val (de_call0 Dlaw_is (hr.mono (by first | decide | omega)) (da_cons (de_callN Dread_kind (hr.mono (by first | decide | omega)) (da_cons (de_callN Dkind_text (hr.mono (by first | decide | omega)) (da_cons (dv 5) da_nil)) da_nil)) (da_cons (dv 5) da_nil))))))))
        (dss_one (ds_ret de_bl))
        dss_nil)
      (dss_cons (ds_if (dt_cmp op_ne l_neS (de_cmp op_eq l_eqS (de_callN Dkind_text (hr.mono (by first | decide | omega)) (da_cons (dv 5) da_nil)) (de_callN Dkind_text (hr.mono (by first | decide | omega)) (da_cons (dv 6) da_nil))) (de_cmp (op_eqD hr.units) l_eqD (dv 5) (dv 6)))
        (dss_one (ds_ret de_bl))
        dss_nil)
      (dss_cons (ds_set (i := 7) sc_law.nd rfl (Or.inl rfl) (de_call0 Dlaw_known (hr.mono (by first | decide | omega)) (da_cons (dv 1) (da_cons de_int da_nil))))
      (dss_cons (ds_set (i := 3) sc_law.nd rfl (Or.inl rfl) (de_call0 Dlaw_some_program (hr.mono (by first | decide | omega)) (da_cons (dv 1) (da_cons (dv 7) (da_cons de_int da_nil)))))
      (dss_cons (ds_set (i := 8) sc_law.nd rfl (Or.inl rfl) (de_call0 Dlaw_loose (hr.mono (by first | decide | omega)) (da_cons (dv 1) (da_cons (de_n (dn_lst (da_cons de_str (da_cons de_str (da_cons de_str (da_cons de_str da_nil)))))) (da_cons de_int da_nil)))))
      (dss_cons (ds_for (vs := [9]) PassesOwn.never rfl (di_list (de_n (dn_lst (da_cons (dv 3) (da_cons (dv 8) da_nil))))) (dg_name (i := 9) (by decide) sc_law.nd rfl (Or.inl rfl))
        (dss_cons (ds_set (i := 10) sc_law.nd rfl (Or.inl rfl) (de_callN Dprogram_text (hr.mono (by first | decide | omega)) (da_cons (dv 9) da_nil)))
        (dss_one (ds_if (DPW.pt (dw_or (dt_not (dt_val (de_call0 Dlaw_is (hr.mono (by first | decide | omega)) (da_cons (dv 10) (da_cons (de_call0 Dlaw_text (hr.mono (by first | decide | omega)) (da_cons (dv 9) da_nil)) da_nil))))) (dw_or1 (dt_not (dt_val (de_call0 Dlaw_is (hr.mono (by first | decide | omega)) (da_cons (de_callN Dread_program (hr.mono (by first | decide | omega)) (da_cons (dv 10) da_nil)) (da_cons (dv 9) da_nil))))))))
          (dss_one (ds_ret de_bl))
          dss_nil))))
      (dss_one (ds_if (dt_cmp op_ne l_neS (de_cmp op_eq l_eqS (de_callN Dprogram_text (hr.mono (by first | decide | omega)) (da_cons (dv 3) da_nil)) (de_callN Dprogram_text (hr.mono (by first | decide | omega)) (da_cons (dv 8) da_nil))) (de_cmp (op_eqD hr.units) l_eqD (dv 3) (dv 8)))
        (dss_one (ds_ret de_bl))
        dss_nil))))))))))
    (dss_one (ds_ret de_bl))))))), fun D0 fin => ?_⟩
    · obtain ⟨ts, t, hd, ht⟩ := D1
      refine ⟨_, PSs.nox (pss_cons (ps_set (i := 1) sc_law.nd rfl (Or.inl rfl) (pe_callD Dlaw_hand (hr.mono (by first | decide | omega)) rfl pass0 (pa_cons (pv 0) pa_nil))) hd.ps), ?_⟩
      walk_at "go"
      refine ⟨sc, ns, rfl, hL, hn, fun B0 H0 a g0 _ hA0 => ?_⟩
      walk_at "go"
      exact hd.sn a B0 H0 (Sl.no :: Sl.val .hand :: List.replicate (n_law.length - 2) Sl.no) _ B0 H0 { nx := fun _ => False, rt := fun d => d = .bl true } _ (law_rel g0.bh hA0 (.ref sc) (n_law.length - 2)) lkn ⟨fun _ _ _ _ _ _ z => z.elim, fun d v B' H' _ _ e z => (by subst z; cases e.bl; exact k H'), fun _ _ _ _ _ _ z => z.elim, fun _ _ _ _ _ _ z => z.elim, fun _ _ _ _ _ _ _ z => z.elim, fun _ _ _ _ _ _ _ z => z.elim⟩ (ht _ rfl)
    · have z0 : (2000 : Nat) ≤ sizeLine := by decide
      walk_at "d"
      refine ⟨rfl, fun lg lgg lgd lgs => ?_⟩
      have gkl : lg.gk := ⟨lgg, by omega, by omega⟩
      obtain ⟨tl, htl⟩ : ∃ tl, tl = Dl.Tm.la "x" lg (.nm "x") := ⟨_, rfl⟩
      have tlg : tl.gud := by rw [htl]; exact ⟨show isNm "x" = true by decide +kernel, gkl, show isNm "x" = true by decide +kernel⟩
      have tls : tl.size = 2 := by rw [htl]; rfl
      have tld : D.tup [.tup [.str "x", lg.d], .str "x"] = .tup tl.ds := by rw [htl]; rfl
      walk_at "r"
      walk_at "d"
      rw [tld]
      refine ⟨lg, rfl, lgg, by omega, ?_⟩
      walk_at "d"
      refine ⟨lg, by omega, rfl, lgg, by omega, ?_⟩
      walk_at "d"
      refine ⟨_, rfl, tsi_str _ _ (by omega), ?_⟩
      walk_at "d"
      refine ⟨lg, by omega, rfl, lgg, by omega, ?_⟩
      walk_at "d"
      refine ⟨lg, rfl, gkl, ?_⟩
      walk_at "d"
      refine ⟨_, rfl, tsi_kd _ _ (by omega), ?_⟩
      walk_at "d"
      refine ⟨tl, rfl, tlg, by omega, ?_⟩
      walk_at "d"
      refine ⟨tl, rfl, tlg, by omega, ?_⟩
      walk_at "d"
      refine ⟨_, rfl, tsi_str _ _ (by omega), ?_⟩
      walk_at "d"
      refine ⟨tl, rfl, tlg, by omega, ?_⟩
      walk_at "d"
      refine ⟨tl, rfl, tlg, by omega, ?_⟩
      walk_at "d"
      refine ⟨_, rfl, tsi_ds _ _ tlg (by omega) (by omega), ?_⟩
      walk_at "d"
      refine ⟨by decide, ?_⟩
      refine for_at (rngD 0 (3 : Int).toNat) (fun i s => ∃ s2 s3 s4 s5 s6 s7 s8 s9 s10, s = [Sl.no, Sl.val .hand, s2, s3, s4, s5, s6, s7, s8, s9, s10]) ?_ ?_ _ ⟨_, _, _, _, _, _, _, _, _, rfl⟩
      · rintro s ⟨s2, s3, s4, s5, s6, s7, s8, s9, s10, rfl⟩
        exact fin
      · rintro i d r s hd ⟨s2, s3, s4, s5, s6, s7, s8, s9, s10, rfl⟩ ih
        obtain ⟨_, rfl⟩ := rngD_at hd
        have nx : ∀ s2 s3 s4 s5 s6 s7 s8 s9 s10, _ := fun s2 s3 s4 s5 s6 s7 s8 s9 s10 => ih _ ⟨s2, s3, s4, s5, s6, s7, s8, s9, s10, rfl⟩
        clear ih
        walk_at "d"
        refine ⟨4, by decide, rfl, fun k1 g1 d1 => ?_⟩
        walk_at "d"
        refine ⟨3, by decide, rfl, fun k2 g2 d2 => ?_⟩
        have q1 : k1.gk := Kd.gk_of g1 (n := 5) (by omega) (by decide)
        have q2 : k2.gk := Kd.gk_of g2 (n := 5) (by omega) (by decide)
        have z1 := q1.2.2
        have z2 := q2.2.2
        have y1 := q1.2.1
        walk_at "d"
        refine ⟨k1, rfl, g1, by omega, ?_⟩
        walk_at "d"
        refine ⟨k1, by omega, rfl, g1, by omega, ?_⟩
        walk_at "d"
        refine ⟨_, rfl, tsi_str _ _ (by omega), ?_⟩
        walk_at "d"
        refine ⟨k1, rfl, g1, by omega, ?_⟩
        walk_at "d"
        refine ⟨k1, rfl, q1, ?_⟩
        walk_at "d"
        refine ⟨_, rfl, tsi_kd _ _ (by omega), ?_⟩
        walk_at "d"
        refine ⟨k1, rfl, g1, by omega, ?_⟩
        walk_at "d"
        refine ⟨k2, rfl, g2, by omega, ?_⟩
        walk_at "d"
        refine ⟨⟨ok_kd (by omega), ok_kd q2.2.1⟩, ?_⟩
        walk_at "d"
        rw [ktx_eq g1 g2, show eqv k1.d k2.d = decide (k1 = k2) from eqv_kd k1 k2, beq_self_eq_true]
        walk_at "d"
        refine ⟨5, rfl, fun ps h9 hps hnd => ?_⟩
        walk_at "d"
        refine ⟨ps, rfl, h9, ⟨hps, hnd⟩, fun t tg0 ht => ?_⟩
        have tg := Tm.good_gud tg0
        walk_at "d"
        refine ⟨by show 4 ≤ _; omega, ?_⟩
        walk_at "d"
        refine ⟨["a", "abcdefgh", "zz", "use"], 3, by decide, by decide, rfl, by simp, by decide, by decide +kernel, fun u ug0 hu => ?_⟩
        have ug := Tm.good_gud ug0
        have hu2 := loN_le (m := 3) (by decide)
        walk_at "d"
        refine ⟨by show 2 ≤ _; omega, ?_⟩
        walk_at "d"
        refine ⟨t, rfl, tg, by omega, ?_⟩
        walk_at "d"
        refine ⟨t, rfl, tg, by omega, ?_⟩
        walk_at "d"
        refine ⟨_, rfl, tsi_str _ _ (by omega), ?_⟩
        walk_at "d"
        refine ⟨t, rfl, tg, by omega, ?_⟩
        walk_at "d"
        refine ⟨_, rfl, tsi_ds _ _ tg (by omega) (by omega), ?_⟩
        walk_at "d"
        refine ⟨u, rfl, ug, by omega, ?_⟩
        walk_at "d"
        refine ⟨u, rfl, ug, by omega, ?_⟩
        walk_at "d"
        refine ⟨_, rfl, tsi_str _ _ (by omega), ?_⟩
        walk_at "d"
        refine ⟨u, rfl, ug, by omega, ?_⟩
        walk_at "d"
        refine ⟨_, rfl, tsi_ds _ _ ug (by omega) (by omega), ?_⟩
        walk_at "d"
        refine ⟨t, rfl, tg, by omega, ?_⟩
        walk_at "d"
        refine ⟨u, rfl, ug, by omega, ?_⟩
        walk_at "d"
        refine ⟨⟨ok_ds tg, ok_ds ug⟩, ?_⟩
        walk_at "d"
        rw [ptx_eq tg ug, eqv_ds tg ug, beq_self_eq_true]
        walk_at "d"
        exact nx _ _ _ _ _ _ _ _ _
end

end K10
set_option maxRecDepth 100000
set_option maxHeartbeats 2000000
namespace K10
open PySem PySem.Spec PyProof.Rows L2 Us Dl
section
variable {P : Program} {w : World} {K : PySem.W.Frag} {mg : Str → Option Value} {base : Heap}
theorem law_ok (hP : P = R.prog) (T : Txt K mg) {f : Addr} {fd : FuncData} (F : FunD K "law" "law" (defArgs s_law) (defBody s_law) (defScope s_law) [] [] f fd) : FnOk P w K mg base CX0 38 f fd p_law (spLaw K) := by
  have Ddraw := ok_drawD (ok_draw (P := P) (w := w) (base := base) T)
  have Dsome := ok_someD T Ddraw
  have Dshuf := ok_shufD T Ddraw
  have Dkind := ok_kind T Ddraw
  have Dends := ok_ends (P := P) (w := w) (base := base) T
  have Dknown := ok_known T Dshuf (Dkind 3)
  have Dheads := ok_heads T Dends
  have Dfit := ok_fit T Ddraw Dsome Dends (Dkind 3) Dheads 4
  have Dloose := ok_loose T Ddraw Dsome (Dkind 3) 4
  have Dprog := ok_prog T Ddraw (Dkind 3) Dloose Dfit
  have Dint := ok_is_integer (P := P) (w := w) (base := base) T
  have Dwi := ok_is_within T Dint
  have Dpair := ok_is_pair (P := P) (w := w) (base := base) T
  have Dtake := ok_is_take (P := P) (w := w) (base := base) T
  have Dname := ok_is_name (P := P) (w := w) (base := base) T
  have Dany := ok_kind_any T Dpair Dwi
  have Dword := ok_is_word T Dpair Dname Dany
  have Dwhole := ok_whole T Dtake
  have Dcheck := ok_check T Dword Dwhole
  have Dspans := ok_spans (P := P) (w := w) (base := base) T
  have Dkto := ok_kind_text_of (P := P) (w := w) (base := base) T
  have Dkth := ok_kind_there T Dpair Dwi
  have Dck := ok_check_kind T Dany
  have Dkt := ok_kind_text T Dck Dkto
  have Dpth := ok_program_there T Dword Dwhole Dtake Dkth
  have Dpto := ok_program_text_of T Dtake Dkto
  have Dpt := ok_program_text T Dcheck Dpto
  obtain ⟨fi, Fi⟩ := T.d_Reader__init
  obtain ⟨fs, Fs⟩ := T.d_Reader_sign
  obtain ⟨fm, Fm⟩ := T.d_Reader_is_small
  obtain ⟨fn, Fn⟩ := T.d_Reader_need
  obtain ⟨fx, Fx⟩ := T.d_Reader_name
  obtain ⟨fl, Fl⟩ := T.d_Reader_letter
  obtain ⟨ff, Ff⟩ := T.d_Reader_finish
  have bi : L2.Binds K fi p_Reader__init [] := Fi.bindsN fun _ _ _ _ _ _ us hl => match us, hl with | [_, _], _ => rfl
  have bs : L2.Binds K fs p_Reader_sign [] := Fs.bindsN fun _ _ _ _ _ _ us hl => match us, hl with | [_], _ => rfl
  have bm : L2.Binds K fm p_Reader_is_small [] := Fm.bindsN fun _ _ _ _ _ _ us hl => match us, hl with | [_], _ => rfl
  have bn : L2.Binds K fn p_Reader_need [] := Fn.bindsN fun _ _ _ _ _ _ us hl => match us, hl with | [_, _], _ => rfl
  have bx : L2.Binds K fx p_Reader_name [] := Fx.bindsN fun _ _ _ _ _ _ us hl => match us, hl with | [_], _ => rfl
  have bl : L2.Binds K fl p_Reader_letter [] := Fl.bindsN fun _ _ _ _ _ _ us hl => match us, hl with | [_], _ => rfl
  have bf : L2.Binds K ff p_Reader_finish [] := Ff.bindsN fun _ _ _ _ _ _ us hl => match us, hl with | [_], _ => rfl
  have Gi := ok_initR (P := P) (w := w) (mg := mg) (base := base) T Fi
  have Gs := ok_sign (P := P) (w := w) (mg := mg) (base := base) T Fs
  have Gm := ok_small T Gs bs Fm
  have Gn := ok_need T Gs bs Fn
  have Gx := ok_name T Gm bm Fx
  have Gl := ok_letter T Gm bm Fl
  have Gf := ok_finish T Gs bs Ff
  have Dki := ok_kind_in T Gs bs Gn bn Gl bl (ok_joined (P := P) (w := w) (base := base) T)
  have Dwk := ok_whole_kind T Gi bi Gf bf Dki
  have Drk := ok_read_kind T Dwk Dkth
  have Dwp := ok_whole_program T Gi bi Gf bf Gs bs Gn bn Gx bx Dki
  have Drp := ok_read_program T Dwp Dpth
  have Dlk := ok_law_kind_text (P := P) (w := w) (base := base) T 31
  have Dlt := ok_law_text T Dspans rfl Dlk
  exact ok_law (N := 36) rfl (M := 31) rfl T (ok_hand T) (ok_long T Ddraw) (ok_is T 36) Dkt Dlk Drk Dpt Dlt Drp (ok_any_kind T Ddraw 5) (Dkind 4) Dknown Dprog Dloose F
end
theorem facts {P : Program} {w : World} {K : PySem.W.Frag} {h : Heap} {mg : Str → Option Value} {f : Addr} (hP : P = R.prog) (X : K.In h) (G : h.Ns mainGlobals mg) (hfa : mg ("law" : Str) = some (.ref f)) (c : He.SaysD fa fn K) (ce : ex K = true) (cs : Us.SaysS ss K) :
    ∃ fd : FuncData, (∀ (s : Shared) (v : Value), BindsTo s fd ⟨[v], []⟩ [("_law_script", v)]) ∧ ∀ base : Heap, K.In base → base.Ns mainGlobals mg → FnOk P w K mg base CX0 38 f fd ["_law_script"] (spLaw K) := by
  have T := txt_mk X G c ce cs
  obtain ⟨f', fd, F, hm⟩ := T.d_law.ex
  have e := hfa.symm.trans hm
  cases e
  refine ⟨fd, fun s v => ?_, fun base _ _ => ?_⟩
  · have b := FunD.bindsA (ps := ["_law_script"]) F fun _ _ _ _ _ _ us hl => match us, hl with | [_], _ => rfl
    exact b s [v] rfl
  · exact law_ok hP T F

end K10

open PySem PySem.W PySem.Calls PyProof.Rows in
theorem PySem.Challenge.cw_usecounts_k10_whole_texts_there_and_back_holds : PySem.Challenge.rw_usecounts_k10_whole_texts_there_and_back.Holds := by
  w_on; o_law
  refine HandSHeadRun.head_any (r := OpenLaw.row PySem.Challenge.rw_usecounts_k10_whole_texts_there_and_back) (q := view (OpenLaw.row PySem.Challenge.rw_usecounts_k10_whole_texts_there_and_back).prog [58]) (H := K10.hk) (ob := K10.ob) (M := 4000) (loose := K10.loose) (d := HandSHeadRun.topDef (OpenLaw.row PySem.Challenge.rw_usecounts_k10_whole_texts_there_and_back).prog 58) (kwd := []) K10.ob_eq
    (by kernel_rfl) (fun s => by kernel_rfl) K10.run (by kernel_rfl) (by kernel_rfl) (by kernel_rfl) (by rfl) (by first | assumption | decide +kernel) (by decide +kernel) ⟨rfl, rfl, rfl, rfl, rfl, by decide +kernel⟩ ?hw ?hc
  case hw => w_witness2
  case hc =>
    refine L2.walk_ofE (l := PySem.Challenge.rw_usecounts_k10_whole_texts_there_and_back) (n := 63) (k := 38) (x := "_law_script") (CX := L2.CX0) rfl (by decide) (by kernel_rfl) ⟨rfl, by decide, by decide⟩ ?F (fun _ _ _ _ z => z)
    intro w mg fa h Y G hmg0
    obtain ⟨K, KX, c, ce, cs⟩ := Y
    have hmg : mg ("law" : PySem.Str) = some (.ref fa) := by
      have e : (HandSHeadRun.topDef (OpenLaw.row PySem.Challenge.rw_usecounts_k10_whole_texts_there_and_back).prog 58).name = ("law" : PySem.Str) := by kernel_rfl
      rw [← e]
      exact hmg0
    obtain ⟨fd, hb, hF⟩ := K10.facts (P := (PySem.Challenge.rw_usecounts_k10_whole_texts_there_and_back).prog) (w := w) rfl KX G hmg c ce cs
    exact ⟨K, fd, K10.spLaw K, KX, hb, fun H a ns hl _ hS => ⟨a, ns, rfl, hS, hl, fun _ => rfl⟩, hF⟩
#print axioms PySem.Challenge.cw_usecounts_k10_whole_texts_there_and_back_holds
