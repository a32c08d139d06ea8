import PyProof.Rows.All
import Wide.All
import OpenK.AllK
import Wide.FinOn
import KE.KStateDown
import HandS.ForMost
import HandS.ForExc
import HandS.Defaults
import HandS.HeadEnd
import HandS.Head0
import HandS.Head1
import HandS.Head2
import HandS.HeadHook1
import HandS.HeadHook2
import HandS.IsInst
import HandS.ExcIs
import HandS.TupAny
import HandS.Style
import HandS.SetFor
import HandS.SetKeys
import HandS.SortInts
import HandS.CallRecv
import HandS.Strs
import PySem.Challenge.RW_usecounts_k06_whole_kinds_judged_and_bui
set_option Elab.async false
set_option linter.all false
set_option maxRecDepth 100000
set_option maxHeartbeats 2000000
namespace Us
open PySem PySem.Spec PyProof.Rows L2
/-! ### the head by facts, and one Bool more -/
abbrev AlX : Type := He.AlD × Bool
def obsX (fa : List He.Fa) (fn : List He.DefD) (ex : PySem.W.Frag → Bool) (K : PySem.W.Frag) : AlX := (He.obsD fa fn K, ex K)
def obsXG (n : Nat) (fa : List He.Fa) (fn : List He.DefD) (ex : PySem.W.Frag → Bool) (g : Addr → Option Obj) : AlX := obsX fa fn ex (He.frG g (He.asD g n))
def hookX (n : Nat) (fa : List He.Fa) (fn : List He.DefD) (ex : PySem.W.Frag → Bool) : PySem.W.Hook where
  α := AlX
  obs := fun s => obsXG n fa fn ex s.heap.get?
  val := fun _ => (He.valD fn, true)
  says := fun _ h => ∃ K : PySem.W.Frag, K.In h ∧ He.SaysD fa fn K ∧ ex K = true
  of := fun _ _ e => ⟨_, He.frG_in, congrArg (fun z : AlX => z.1) e, congrArg (fun z : AlX => z.2) e⟩
  keeps := fun _ _ _ ⟨K, hK, c⟩ k => ⟨K, PySem.W.Frag.In.keeps hK k, c⟩
theorem obsXG_eq {n : Nat} {fa : List He.Fa} {fn : List He.DefD} {ex : PySem.W.Frag → Bool} {g : Addr → Option Obj} {s : Shared} (h : ∀ a, g a = s.heap.get? a) : obsXG n fa fn ex g = (hookX n fa fn ex).obs s := by
  have e : g = s.heap.get? := funext h
  rw [e] <;> rfl
end Us
set_option maxRecDepth 100000
set_option maxHeartbeats 2000000
namespace Us
open PySem PySem.Spec PyProof.Rows L2
/-! ### names of the module, defs -/
def GlobV (mg : Str → Option Value) (x : Str) (v : V) : Prop := ∃ u, mg x = some u ∧ RelV v u
theorem pe_globD {X : Cx} {x : Str} {v : V} {pos : Pos} (h : GlobV X.mg x v) (hg : Gl X x := by rfl) (hd : (x == ("__debug__" : Str)) = false := by decide) : PE X (.Name x pos) (tC v) := by
  obtain ⟨u, hm, r⟩ := h
  exact pe_glob hg hm r hd
structure DefOk (P : Program) (w : World) (K : PySem.W.Frag) (mg : Str → Option Value) (base : Heap) (CX : CXT) (k : Nat) (x : Str) (ps : List Str) (sp : Sp) : Prop where
  ex : ∃ (f : Addr) (fd : FuncData), FnOk P w K mg base CX k f fd ps sp ∧ Binds K fd ps [] ∧ mg x = some (.ref f) ∧ PySem.W.keepIn K (.ref f) = true
theorem DefOk.mono {P : Program} {w : World} {K : PySem.W.Frag} {mg : Str → Option Value} {base : Heap} {CX : CXT} {j k : Nat} {x : Str} {ps : List Str} {sp : Sp} (D : DefOk P w K mg base CX j x ps sp) (h : j ≤ k) : DefOk P w K mg base CX k x ps sp := by
  obtain ⟨f, fd, F, r⟩ := D.ex
  exact ⟨f, fd, F.mono h, r⟩
theorem DefOk.imp {P : Program} {w : World} {K : PySem.W.Frag} {mg : Str → Option Value} {base : Heap} {CX : CXT} {k : Nat} {x : Str} {ps : List Str} {sp sp' : Sp} (D : DefOk P w K mg base CX k x ps sp) (h : ∀ vs H Q E, sp' vs H Q E → sp vs H Q E) : DefOk P w K mg base CX k x ps sp' := by
  obtain ⟨f, fd, F, r⟩ := D.ex
  exact ⟨f, fd, F.imp h, r⟩
/-- what the head says of a def: where it stands -/
structure DefAt (K : PySem.W.Frag) (mg : Str → Option Value) (x : Str) (st : Stmt) : Prop where
  ex : ∃ (f : Addr) (fd : FuncData), FunD K x x (defArgs st) (defBody st) (defScope st) [] [] f fd ∧ mg x = some (.ref f)
section
variable {P : Program} {w : World} {K : PySem.W.Frag} {mg : Str → Option Value} {base : Heap}
/-- the rule for a def -/
theorem DefAt.ok {x : Str} {st : Stmt} {CX : CXT} {N ps : List Str} {k : Nat} {sp : Sp} (F : DefAt K mg x st) (S : FnScope N ps (defScope st))
    (hb : ∀ (kV doc pm : Value) (an : Option Addr) (cdv ct : Value) (us : List Value), us.length = ps.length → bindArgs (PySem.W.fnOf x x (defArgs st) (defBody st) (defScope st) .none kV doc pm an cdv ct) ⟨us, []⟩ = pure (ps.zip us))
    (len : ∀ vs H Q E, sp vs H Q E → vs.length = ps.length)
    (hbody : ∀ (f : Addr) (cdv : Value) (A : Around) (outer : List Env) (s : Shared) (H : Hp) (vs : List V) (Q : VK) (E : XK), Room k (A.deeper (envOfC x (defScope st) s.heap.objs.size f cdv)) → sp vs H Q E →
      ∃ t, PSs (cxOf CX P w K mg base N x (defScope st) f cdv A outer s H E) (defBody st) t ∧ t { nx := fun _ H' => Q .non H', rt := Q } (start N vs) H) : DefOk P w K mg base CX (k + 1) x ps sp := by
  obtain ⟨f, fd, F, g⟩ := F.ex
  exact ⟨f, fd, F.ok S len (fun cdv A outer s H vs Q E => hbody f cdv A outer s H vs Q E), F.bindsN hb, g, F.kp⟩
end
section
variable {X : Cx} {CX : CXT} {k : Nat} {x : Str} {ps : List Str} {sp : Sp} {E : XK} {p pos : Pos} {e : Expr} {es : List Expr} {t : TA}
theorem pe_callD (D : DefOk X.prog X.w X.K X.mg X.base CX k x ps sp) (hr : Room k X.A) (hg : Gl X x) (hx : Passes CX X E) (ha : PA X (e :: es) t)
    (hdb : (x == ("__debug__" : Str)) = false := by decide) (he : starEach (e :: es) X.env = (false, eval e X.env) :: starEach es X.env := by rfl) (hpl : (backTo pos (starEach es X.env)).any (·.1) = false := by rfl) :
    PE X (.Call (.Name x p) (e :: es) [] pos) (tCall sp [] E t) := by
  obtain ⟨f, fd, F, hb, hm, hk⟩ := D.ex
  exact pe_call F hr hg hm hk hb .nil hx ha hdb he hpl
theorem pe_callDS {E : L2.St → XK} (D : DefOk X.prog X.w X.K X.mg X.base CX k x ps sp) (hr : Room k X.A) (hg : Gl X x) (hx : ∀ σ, PassesAt CX X σ (E σ)) (ha : PA X (e :: es) t)
    (hdb : (x == ("__debug__" : Str)) = false := by decide) (he : starEach (e :: es) X.env = (false, eval e X.env) :: starEach es X.env := by rfl) (hpl : (backTo pos (starEach es X.env)).any (·.1) = false := by rfl) :
    PE X (.Call (.Name x p) (e :: es) [] pos) (tCallS sp E t) := by
  obtain ⟨f, fd, F, hb, hm, hk⟩ := D.ex
  exact pe_callS F hr hg hm hk hb hx ha hdb he hpl
end
/-! ### C(), an own exception without own __init__, no arguments -/
theorem pmk_own0 {X : Cx} {C : Addr} {bmB : List Value} {B newId initId : String} {x : Str} {p pos : Pos} (F : ExcBaseFacts B newId initId bmB) (q : PySem.W.excIn X.K C bmB newId = true) (gC : X.mg x = some (.ref C)) (kC : PySem.W.keepIn X.K (.ref C) = true) (r : Raises X (.ref C)) (hg : Gl X x)
    (hdb : (x == ("__debug__" : Str)) = false := by decide) : PMk X (.Call (.Name x p) [] [] pos) (fun _ H Q => Q (.ref C) none H) := by
  intro pins s σ H Q I h
  refine wpAny_Call_Name_kw (ld_glob I hg gC ?_ hdb)
  refine PySem.W.callWith_K0 I.kIn kC ?_
  show wpAny _ _ (call (.ref C) []) _ _ _
  obtain ⟨bm, N, nm, qn, bs, hdct, sn, sub, ab, col, dd, k0, k1, k2, k3, k5, mN, hC, hN, hni, T⟩ := exc_obj I.kIn q
  refine wpAny_call_exc_subT F T hC hN hni (fun h' e hm => ?_) (by show 0 ≤ sizeLine; rw [sizeLine_eq]; omega)
  exact mk_of I hm r h (I.hok.gone hm.new)
structure ExcOk (K : PySem.W.Frag) (mg : Str → Option Value) (x : Str) (C : Addr) : Prop where
  g : mg x = some (.ref C)
  q : PySem.W.excIn K C He.veBase "ValueError.__new__" = true
  k : PySem.W.keepIn K (.ref C) = true
  s : PySem.W.subIn K (.ref C) (.type "BaseException") = some true
  t : PySem.W.typeIn K (.ref C) = some (.type "type")
theorem pmk_x {X : Cx} {C : Addr} {x : Str} {p pos : Pos} (T : ExcOk X.K X.mg x C) (hg : Gl X x) (hdb : (x == ("__debug__" : Str)) = false := by decide) : PMk X (.Call (.Name x p) [] [] pos) (fun _ H Q => Q (.ref C) none H) :=
  pmk_own0 PySem.F.excBase_ValueError T.q T.g T.k (raises_own T.s T.t) hg hdb
/-! ### what stands for good: Same, Gr -/
end Us
namespace L2
open PySem PySem.Spec PyProof.Rows
theorem Same.new {H : Hp} {p : Addr} {o : HO} (h : H p = none) : Same H (upd H p o) := fun b u e => by rw [upd_ne (ne_of_none e h)]; exact e
theorem Same.under {B H : Hp} {p : Addr} {o : HO} (s : Same B H) (h : B p = none) : Same B (upd H p o) := fun b u e => by rw [upd_ne (ne_of_none e h)]; exact s b u e
theorem Same.both {B H : Hp} {p : Addr} {o : HO} (s : Same B H) : Same (upd B p o) (upd H p o) := fun b u e => by
  by_cases hb : b = p
  · subst hb; rw [upd_same] at e ⊢; exact e
  · rw [upd_ne hb] at e ⊢; exact s b u e
end L2
namespace Us
open PySem PySem.Spec PyProof.Rows L2
/-- from (B, H) to (B', H'): B is what stands for good, H all; only the objects at ms are written -/
structure Gr (ms : List Addr) (B H B' H' : Hp) : Prop where
  bb : Same B B'
  bh : Same B' H'
  keep : ∀ b o, b ∉ ms → H b = some o → H' b = some o
  there : ∀ b, H b ≠ none → H' b ≠ none
  old : ∀ b, H b ≠ none → B' b = B b
section
variable {ms ns : List Addr} {B H B1 H1 B2 H2 : Hp} {p : Addr} {o u : HO}
theorem Gr.refl (s : Same B H) : Gr ms B H B H := ⟨Same.refl _, s, fun _ _ _ e => e, fun _ e => e, fun _ _ => rfl⟩
theorem Gr.trans (a : Gr ms B H B1 H1) (b : Gr ms B1 H1 B2 H2) : Gr ms B H B2 H2 :=
  ⟨a.bb.trans b.bb, b.bh, fun c o h e => b.keep c o h (a.keep c o h e), fun c e => b.there c (a.there c e), fun c e => (b.old c (a.there c e)).trans (a.old c e)⟩
theorem Gr.mono (a : Gr ms B H B1 H1) (h : ∀ b ∈ ms, b ∈ ns) : Gr ns B H B1 H1 := ⟨a.bb, a.bh, fun c o hc e => a.keep c o (fun q => hc (h c q)) e, a.there, a.old⟩
theorem Gr.up (a : Gr [] B H B1 H1) : Gr ns B H B1 H1 := a.mono fun _ h => nomatch h
/-- behind it, a step that writes new objects too -/
theorem Gr.trans' (a : Gr ms B H B1 H1) (b : Gr ns B1 H1 B2 H2) (h : ∀ q ∈ ns, q ∈ ms ∨ H q = none) : Gr ms B H B2 H2 :=
  ⟨a.bb.trans b.bb, b.bh, fun c o hc e => b.keep c o (fun q => (h c q).elim hc fun z => by rw [z] at e; cases e) (a.keep c o hc e), fun c e => b.there c (a.there c e), fun c e => (b.old c (a.there c e)).trans (a.old c e)⟩
theorem Gr.bnone (a : Gr ms B H B1 H1) (h : B p = none) (hH : H p = some o) : B1 p = none := (a.old p (by rw [hH]; exact fun z => nomatch z)).trans h
theorem Gr.fresh (a : Gr ms B H B1 H1) (h : H1 p = none) : H p = none := by
  cases e : H p with
  | none => rfl
  | some o => exact absurd h (a.there p (by rw [e]; exact fun z => nomatch z))
theorem bfresh (s : Same B H) (h : H p = none) : B p = none := by
  cases e : B p with
  | none => rfl
  | some o => rw [s p o e] at h; cases h
/-- a new object that stands for good -/
theorem Gr.new (s : Same B H) (h : H p = none) : Gr ms B H (upd B p o) (upd H p o) :=
  ⟨Same.new (bfresh s h), s.both, fun b u _ e => by rw [upd_ne (ne_of_none e h)]; exact e, fun b e => by
    by_cases hb : b = p
    · subst hb; exact absurd h e
    · rw [upd_ne hb]; exact e, fun b e => upd_ne (fun z => by subst z; exact e h)⟩
/-- a new object that is written later -/
theorem Gr.cell (s : Same B H) (h : H p = none) : Gr ms B H B (upd H p o) :=
  ⟨Same.refl _, s.under (bfresh s h), fun b u _ e => by rw [upd_ne (ne_of_none e h)]; exact e, fun b e => by
    by_cases hb : b = p
    · subst hb; exact absurd h e
    · rw [upd_ne hb]; exact e, fun _ _ => rfl⟩
/-- an object is written -/
theorem Gr.set (s : Same B H) (hB : B p = none) (hH : H p = some u) (hm : p ∈ ms) : Gr ms B H B (upd H p o) :=
  ⟨Same.refl _, s.under hB, fun b v hb e => by rw [upd_ne (fun z => hb (by rw [z]; exact hm))]; exact e, fun b e => by
    by_cases hb : b = p
    · subst hb; rw [upd_same]; exact fun z => nomatch z
    · rw [upd_ne hb]; exact e, fun _ _ => rfl⟩
/-- a new object, made by a call -/
theorem Gr.obj (s : Same B H) (hx : H p = none) (k : ∀ b u, H b = some u → H2 b = some u) (e : H2 p = some o) : Gr ms B H (upd B p o) H2 where
  bb := Same.new (bfresh s hx)
  bh := fun b u h => by
    by_cases hb : b = p
    · rw [hb, upd_same] at h
      cases h
      rw [hb]
      exact e
    · rw [upd_ne hb] at h
      exact k _ _ (s b u h)
  keep := fun b u _ h => k b u h
  there := fun b h z => by
    cases q : H b with
    | none => exact h q
    | some u => rw [k b u q] at z; cases z
  old := fun b h => upd_ne (fun z => h (by rw [z]; exact hx))
/-- a new object of ours is written: seen from the entry -/
theorem Gr.setN (g : Gr ms B H B1 H1) (h0 : H p = none) (hB : B1 p = none) : Gr ms B H B1 (upd H1 p o) :=
  ⟨g.bb, g.bh.under hB, fun b v hb e => by rw [upd_ne (ne_of_none e h0)]; exact g.keep b v hb e, fun b e => by
    by_cases hb : b = p
    · subst hb; exact absurd h0 e
    · rw [upd_ne hb]; exact g.there b e, g.old⟩
/-- a new object of ours stands for good from now on -/
theorem Gr.keepN (g : Gr ms B H B1 H1) (h0 : H p = none) (hH : H1 p = some o) (hB : B1 p = none) : Gr ms B H (upd B1 p o) H1 :=
  ⟨fun b u e => by rw [upd_ne (ne_of_none (g.bb b u e) hB)]; exact g.bb b u e, fun b u e => by
    by_cases hb : b = p
    · subst hb; rw [upd_same] at e; cases e; exact hH
    · rw [upd_ne hb] at e; exact g.bh b u e, g.keep, g.there, fun b e => (upd_ne (fun z => by subst z; exact e h0)).trans (g.old b e)⟩
end
/-! ### values of known shape -/
def tyNs : List String := ["tuple", "list", "dict", "int", "bool", "str"]
/-- an own class whose instances are none of these -/
structure OwnC (K : PySem.W.Frag) (C : Addr) : Prop where
  cl : Cls K C
  ha : PySem.W.findIn K (.ref C) "__class__" = some (some (.builtin "object.__class__"))
  hn : PySem.W.specialIn K (.builtin "object.__class__") "__get__" = some (some (.builtin "getset_descriptor.__get__"))
  ht : PySem.W.takesIn K (.builtin "object.__class__") = some true
  hm : PySem.W.mroIn K C (.type "object") = some true
  no : ∀ n ∈ tyNs, PySem.W.kitOne K (.ref C) (.type n) = some false
def ownCB (K : PySem.W.Frag) (C : Addr) : Bool := decide (PySem.W.findIn K (.ref C) "__class__" = some (some (.builtin "object.__class__"))) && (decide (PySem.W.specialIn K (.builtin "object.__class__") "__get__" = some (some (.builtin "getset_descriptor.__get__"))) && (decide (PySem.W.takesIn K (.builtin "object.__class__") = some true) && (decide (PySem.W.mroIn K C (.type "object") = some true) && tyNs.all fun n => decide (PySem.W.kitOne K (.ref C) (.type n) = some false))))
theorem ownC_of {K : PySem.W.Frag} {C : Addr} (cl : Cls K C) (h : ownCB K C = true) : OwnC K C := by
  obtain ⟨h1, h⟩ := He.ba h
  obtain ⟨h2, h⟩ := He.ba h
  obtain ⟨h3, h⟩ := He.ba h
  obtain ⟨h4, h⟩ := He.ba h
  exact ⟨cl, of_decide_eq_true h1, of_decide_eq_true h2, of_decide_eq_true h3, of_decide_eq_true h4, fun n hn => of_decide_eq_true (List.all_eq_true.mp h n hn)⟩
def excCB (K : PySem.W.Frag) (D : Addr) : Bool := decide (PySem.W.findIn K (.ref D) "__getattribute__" = some (some (.builtin "BaseException.__getattribute__"))) && (decide (PySem.W.findIn K (.ref D) "__getattr__" = some none) && (decide (PySem.W.subIn K (.ref D) (.type "BaseException") = some true) && (PySem.W.hasDictIn K D && (decide (PySem.W.findIn K (.ref D) "__class__" = some (some (.builtin "object.__class__"))) && (decide (PySem.W.specialIn K (.builtin "object.__class__") "__get__" = some (some (.builtin "getset_descriptor.__get__"))) && (decide (PySem.W.takesIn K (.builtin "object.__class__") = some true) && decide (PySem.W.mroIn K D (.type "object") = some true)))))))
theorem excC_of {K : PySem.W.Frag} {D : Addr} (h : excCB K D = true) : ExcC K D := by
  obtain ⟨h1, h⟩ := He.ba h
  obtain ⟨h2, h⟩ := He.ba h
  obtain ⟨h3, h⟩ := He.ba h
  obtain ⟨h4, h⟩ := He.ba h
  obtain ⟨h5, h⟩ := He.ba h
  obtain ⟨h6, h⟩ := He.ba h
  obtain ⟨h7, h8⟩ := He.ba h
  exact ⟨of_decide_eq_true h1, of_decide_eq_true h2, of_decide_eq_true h3, h4, of_decide_eq_true h5, of_decide_eq_true h6, of_decide_eq_true h7, of_decide_eq_true h8⟩
inductive Sh (K : PySem.W.Frag) (B : Hp) : V → Prop where
  | non : Sh K B .non
  | bl (b : Bool) : Sh K B (.bl b)
  | int (i : Int) : Sh K B (.int i)
  | str (s : Str) : Sh K B (.str s)
  | tup {p : Addr} {us : List V} (h : B p = some (.tup us)) : Sh K B (.ref p)
  | lst {p : Addr} {us : List V} (h : B p = some (.lst us)) : Sh K B (.ref p)
  | dct {p : Addr} {kvs : List (Key × V)} (h : B p = some (.dK kvs)) : Sh K B (.ref p)
  | ins {p C dx : Addr} {fs : List (Str × V)} (h : B p = some (.ins C dx fs)) (c : OwnC K C) : Sh K B (.ref p)
def shB (B : Hp) (v : V) (n : String) : Bool := match v with
  | .bl _ => n == "bool" || n == "int"
  | .int _ => n == "int"
  | .str _ => n == "str"
  | .ref p => (match B p with
    | some (.tup _) => n == "tuple"
    | some (.lst _) => n == "list"
    | some (.dK _) => n == "dict"
    | _ => false)
  | _ => false
theorem Sh.mono {K : PySem.W.Frag} {B B' : Hp} {v : V} (s : Same B B') (h : Sh K B v) : Sh K B' v := by
  cases h with
  | non => exact .non
  | bl b => exact .bl b
  | int i => exact .int i
  | str z => exact .str z
  | tup h => exact .tup (s _ _ h)
  | lst h => exact .lst (s _ _ h)
  | dct h => exact .dct (s _ _ h)
  | ins h c => exact .ins (s _ _ h) c
theorem shB_mono {K : PySem.W.Frag} {B B' : Hp} {v : V} {n : String} (s : Same B B') (h : Sh K B v) : shB B' v n = shB B v n := by
  cases h with
  | tup h => unfold shB; dsimp only; rw [h, s _ _ h]
  | lst h => unfold shB; dsimp only; rw [h, s _ _ h]
  | dct h => unfold shB; dsimp only; rw [h, s _ _ h]
  | ins h c => unfold shB; dsimp only; rw [h, s _ _ h]
  | _ => rfl
theorem shB_tup {B : Hp} {p : Addr} {us : List V} {n : String} (h : B p = some (.tup us)) : shB B (.ref p) n = (n == "tuple") := by unfold shB; dsimp only; rw [h]
theorem shB_lst {B : Hp} {p : Addr} {us : List V} {n : String} (h : B p = some (.lst us)) : shB B (.ref p) n = (n == "list") := by unfold shB; dsimp only; rw [h]
theorem shB_dct {B : Hp} {p : Addr} {us : List (Key × V)} {n : String} (h : B p = some (.dK us)) : shB B (.ref p) n = (n == "dict") := by unfold shB; dsimp only; rw [h]
theorem shB_ins {B : Hp} {p C dx : Addr} {fs : List (Str × V)} {n : String} (h : B p = some (.ins C dx fs)) : shB B (.ref p) n = false := by unfold shB; dsimp only; rw [h]
theorem sh_ty {K : PySem.W.Frag} {B H : Hp} {v : V} (s : Same B H) (h : Sh K B v) : ∃ t, TyX K H v t ∧ ∀ n ∈ tyNs, PySem.W.kitOne K t (.type n) = some (shB B v n) := by
  cases h with
  | non => exact ⟨_, .base .non, fun n hn => kit_ty (by show kitB "NoneType" n = some false; revert n; decide +kernel)⟩
  | bl b => exact ⟨_, .base (.bl b), fun n hn => kit_ty (by show kitB "bool" n = some (n == "bool" || n == "int"); revert n; decide +kernel)⟩
  | int i => exact ⟨_, .base (.int i), fun n hn => kit_ty (by show kitB "int" n = some (n == "int"); revert n; decide +kernel)⟩
  | str z => exact ⟨_, .base (.str z), fun n hn => kit_ty (by show kitB "str" n = some (n == "str"); revert n; decide +kernel)⟩
  | tup h => exact ⟨_, .base (.tup (s _ _ h)), fun n hn => by rw [shB_tup h]; exact kit_ty (by revert n; decide +kernel)⟩
  | lst h => exact ⟨_, .base (.lst (s _ _ h)), fun n hn => by rw [shB_lst h]; exact kit_ty (by revert n; decide +kernel)⟩
  | dct h => exact ⟨_, .base (.dK (s _ _ h)), fun n hn => by rw [shB_dct h]; exact kit_ty (by revert n; decide +kernel)⟩
  | ins h c => exact ⟨_, .base (.ins (s _ _ h) c.cl c.ha c.hn c.ht c.hm), fun n hn => by rw [shB_ins h]; exact c.no n hn⟩
/-- isinstance(v, T) -/
theorem i_isi {K : PySem.W.Frag} {B H : Hp} {v : V} {n : String} {Q : VK} (s : Same B H) (h : Sh K B v) (q : Q (.bl (shB B v n)) H) (hn : n ∈ tyNs) : rIsi K [v, .ty n] H Q := by
  obtain ⟨t, ht, hk⟩ := sh_ty s h
  exact ⟨v, .ty n, t, _, _, rfl, .ty n, ht, hk n hn, q⟩
/-- isinstance(v, (T1, T2)) -/
theorem i_isiT2 {K : PySem.W.Frag} {B H : Hp} {v : V} {p : Addr} {n m : String} {Q : VK} (s : Same B H) (h : Sh K B v) (hp : H p = some (.tup [.ty n, .ty m])) (q : Q (.bl (shB B v n || shB B v m)) H) (hn : n ∈ tyNs) (hm : m ∈ tyNs) : rIsiT K [v, .ref p] H Q := by
  obtain ⟨t, ht, hk⟩ := sh_ty s h
  refine ⟨v, p, _, t, [.type n, .type m], shB B v n || shB B v m, rfl, hp, .cons (.ty n) (.cons (.ty m) .nil), ht, ?_, q⟩
  refine kitAny_cons (hk n hn) (fun e => ?_) (fun e => ?_)
  · rw [e, Bool.false_or]
    exact kitAny_cons (hk m hm) (fun e => by rw [e]; exact kitAny_nil) (fun e => e)
  · rw [e]; rfl
end Us
set_option maxRecDepth 100000
set_option maxHeartbeats 4000000
/-! rules that the layer lacks: xs.extend(a tuple), t[::-1] of a tuple -/
namespace HT
open PySem PySem.Spec PyProof.Rows
section
variable {prog : Program} {w : World} {A : Around} {E : Value → Shared → Prop} {s : Shared}
theorem places_rev (n : Nat) : Builtin.Slice.slicePlaces ((n : Int) - 1) (-1) (-1) = n := by
  unfold Builtin.Slice.slicePlaces
  have h1 : ¬ ((-1 : Int) > 0) := by omega
  simp only [h1, if_false]
  have e : (-(-1) : Int) = 1 := by decide
  simp only [e, Int.ediv_one]
  split <;> omega
theorem adjust_rev (n : Nat) : Builtin.Slice.sliceAdjust none none (-1) (n : Int) = ((n : Int) - 1, -1) := by
  unfold Builtin.Slice.sliceAdjust
  first
    | rfl
    | (simp; done)
theorem sliceApplied_rev {sl : Addr} {vs : Value} {n : Nat} {Q : Int × Int × Nat → Shared → Prop} (hs : s.heap.IsSliceOf sl .none .none vs) (ps : IsPart vs (some (-1)))
    (h : Q (((n : Int) - 1), -1, n) s) : wpAny (model prog w) A (Builtin.Slice.sliceApplied (.ref sl) (pure (n : Int))) Q E s := by
  obtain ⟨os, hos, hcs, hds⟩ := id hs
  unfold Builtin.Slice.sliceApplied Builtin.Slice.sliceFields
  refine wpAny_bind (wpAny_bind (wpAny_field hos hds (x := .none) rfl (wpAny_bind (wpAny_field hos hds (x := .none) rfl (wpAny_bind (wpAny_field hos hds (x := vs) rfl (wpAny_pure ?_)))))))
  refine wpAny_bind (slicePart_ ps ?_)
  show wpAny _ _ (if ((-1 : Int) == 0) = true then _ else _) _ _ s
  rw [if_neg (by decide)]
  refine wpAny_bind (slicePart_none (wpAny_bind (slicePart_none (wpAny_bind (wpAny_pure ?_)))))
  show wpAny _ _ (match Builtin.Slice.sliceAdjust none none (-1) (n : Int) with | (lo, hi) => pure (lo, (-1 : Int), Builtin.Slice.slicePlaces lo hi (-1))) _ _ s
  rw [adjust_rev n]
  show wpAny _ _ (pure (((n : Int) - 1), (-1 : Int), Builtin.Slice.slicePlaces ((n : Int) - 1) (-1) (-1))) _ _ s
  rw [places_rev]
  exact wpAny_pure h
theorem fm_congr {α β : Type} {f g : α → Option β} : ∀ {l : List α}, (∀ a ∈ l, f a = g a) → l.filterMap f = l.filterMap g
  | [], _ => rfl
  | a :: r, h => by
    rw [List.filterMap_cons, List.filterMap_cons, h a List.mem_cons_self, fm_congr fun b hb => h b (List.mem_cons_of_mem _ hb)]
theorem pick_rev (xs : Array Value) : ((List.range xs.size).filterMap fun (m : Nat) => xs[((((xs.size : Nat) : Int) - 1) + (m : Int) * (-1)).toNat]?).toArray = xs.toList.reverse.toArray := by
  have e2 : (List.range xs.size).filterMap (fun (m : Nat) => xs[((((xs.size : Nat) : Int) - 1) + (m : Int) * (-1)).toNat]?) = (List.range xs.size).filterMap ((fun (k : Nat) => xs[k]?) ∘ fun k => xs.size - 1 - k) := by
    refine fm_congr fun m hm => ?_
    have hl := List.mem_range.mp hm
    have : ((((xs.size : Nat) : Int) - 1) + (m : Int) * (-1)).toNat = xs.size - 1 - m := by omega
    rw [this]
    rfl
  rw [e2, ← List.filterMap_map, PySem.W.krv_range, List.filterMap_reverse, PySem.W.krv_all]
theorem getItem_tuple_rev {t sl : Addr} {items : Array Value} {vs : Value} {Q : Value → Shared → Prop} (ht : IsTup s.heap t items) (hs : s.heap.IsSliceOf sl .none .none vs) (ps : IsPart vs (some (-1)))
    (h : Q (.ref s.heap.objs.size) { s with heap := s.heap.push { cls := .type "tuple", data := .seq items.toList.reverse.toArray } })
    (hsz : items.size ≤ sizeLine) : wpAny (model prog w) A (getItem (.ref t) (.ref sl)) Q E s := by
  have htake : sizeOk (.seq items.toList.reverse.toArray) := by
    show items.toList.reverse.toArray.size ≤ sizeLine
    rw [List.size_toArray, List.length_reverse, Array.length_toList]
    exact hsz
  obtain ⟨os, hos, hcs, hds⟩ := id hs
  have hTs : s.TypeIs (.ref sl) "slice" := ⟨os, hos, hcs⟩
  unfold getItem
  try with_reducible refine wpAny_holding ?_
  first | refine wpAny_bind (wpAny_pure ?_) | skip
  refine wpAny_bind (wpAny_sequenceKey ht.typeIs (by decide) ?_)
  refine wpAny_bind (wpAny_callSpecial?_slot (name := Str.ofString "__getitem__") ht.typeIs PyProof.Rows.slot_tuple_getitem
    (wpAny_call_entry PyProof.Rows.slot_tuple_getitem ht.typeIs entry_tuple_getitem ?_ (args_tuple_getitem _ _)))
  show wpAny _ _ (Builtin.Tuple.tupleItemsOf (.ref t) >>= _) _ _ s
  refine wpAny_bind (tupleItemsOf_ ht ?_)
  refine wpAny_bind (wpAny_typeOf hTs ?_)
  rw [if_pos (by decide)]
  refine wpAny_bind (sliceApplied_rev hs ps ?_)
  have hno : ¬ (((((items.size : Nat) : Int) - 1) == 0 && (-1 : Int) == 1 && items.size == items.size) = true) := by
    intro q
    rw [Bool.and_eq_true, Bool.and_eq_true] at q
    have q1 : ((-1 : Int) == 1) = true := q.1.2
    exact absurd q1 (by decide)
  show wpAny _ _ (if ((((items.size : Nat) : Int) - 1) == 0 && (-1 : Int) == 1 && items.size == items.size) = true then _ else _) _ _ s
  rw [if_neg hno, pick_rev]
  first
    | exact wpAny_bind (m := Builtin.Tuple.tupleExact _) (wpAny_newObj_type (wpAny_pure ⟨_, rfl, wpAny_pure h⟩) htake)
    | exact wpAny_bind (m := Builtin.Tuple.tupleExact _) (wpAny_newObj_type (wpAny_bind (wpAny_pure (wpAny_pure ⟨_, rfl, wpAny_pure h⟩))) htake)
    | exact wpAny_bind (wpAny_bind (m := Builtin.Tuple.tupleExact _) (wpAny_newObj_type (wpAny_pure (wpAny_pure ⟨_, rfl, wpAny_pure h⟩)) htake))
    | exact wpAny_bind (wpAny_bind (m := Builtin.Tuple.tupleExact _) (wpAny_newObj_type (wpAny_pure ⟨_, rfl, wpAny_pure h⟩) htake))
end
end HT
namespace Us
open PySem PySem.Spec PyProof.Rows L2
open PySem.AutoSeq1 in
set_option maxRecDepth 8000 in
theorem list_extend_tupW (l : Addr) (items : Array Value) (n : Nat) (b : Addr) (items2 : Array Value) (n2 : Nat) (dd : Option Addr) (sl : Array (Option Value)) (hs0 : ¬(!items.isEmpty && Builtin.List.listTooLong (items.size + items2.size)) = true) (hs1 : items.size ≤ sizeLine) (hs2 : items.size + items2.size ≤ sizeLine + 1) :
    Meets (Builtin.«list.extend» ⟨[.ref l, .ref b], []⟩) (fun _ R s => s.heap.get? l = some { cls := .type "list", dict := none, data := .seq items n, slots := #[] } ∧ s.heap.get? b = some { cls := .type "tuple", dict := dd, data := .seq items2 n2, slots := sl } ∧ R (.ok (.ret Value.none)) { s with heap := s.heap.update l (Obj.mapSeq fun x => x ++ items2), toks := s.toks }) :=
  .of_wp fun prog w A R s h => by
    obtain ⟨hp, g, d, tk, os⟩ := s; obtain ⟨hl, hb, h⟩ := h; have f1 := idx_int; have f2 := PySem.AutoSeq1.sub_tuple_tuple; have f3 := PySem.AutoSeq1.sub_list_list; have f4 := PySem.AutoSeq1.sub_tuple_list; have f5 := PySem.AutoSeq1.sub_list_tuple;
    have hz' : (items ++ items2).size ≤ sizeLine + 1 := by rw [Array.size_append]; exact hs2
    wp_walk using (wpAny_updateSeq hl rfl (hz := hs1) (_hz' := hz')), wpAny_loadPart' hl, wpAny_loadPart' hb; exact ⟨_, rfl, h⟩
section
variable {X : Cx}
def tRevT (K : PySem.W.Frag) (te : TE) : TE := fun σ H Q => te σ H fun x H1 => ∃ a xs, x = .ref a ∧ SqT K H1 a xs ∧ ∀ p, H1 p = none → Q (.ref p) (upd H1 p (.tup xs.reverse))
theorem pe_revT {e : Expr} {te : TE} {k : Nat} {p1 p2 p3 pos : Pos} (he : PE X e te) : PE X (.Subscript e (.Slice none none (some (.UnaryOp .USub (.Constant (.int 1) k p1) p2)) p3) pos) (tRevT X.K te) := by
  refine ⟨fun pins s σ H Q I h => ?_⟩
  refine Subscript_ (thn (he.run pins s σ H _ I h) fun v s1 ⟨x, H1, I1, r1, q1⟩ => ?_)
  obtain ⟨a, xs, ex, hx, q⟩ := q1
  subst ex
  cases r1
  have hst : PO X (some (.UnaryOp .USub (.Constant (.int 1) k p1) p2)) (tPart (tUn (rU fun i => .int (-i)) (tC (.int 1)))) := po_some (pe_un un_neg pe_int)
  refine wpAny_Slice (thn (po_none.run pins s1 σ H1 (fun o H2 => o = none ∧ H2 = H1) I1 ⟨rfl, rfl⟩) fun vl s2 ⟨l, H2, I2, pl, el, e2⟩ => ?_)
  subst el e2
  refine thn (po_none.run pins s2 σ H2 (fun o H3 => o = none ∧ H3 = H2) I2 ⟨rfl, rfl⟩) fun vu s3 ⟨u, H3, I3, pu, eu, e3⟩ => ?_
  subst eu e3
  refine thn (hst.run pins s3 σ H3 (fun o H4 => o = some (-1) ∧ H4 = H3) I3 ⟨1, rfl, -1, rfl, rfl, rfl⟩) fun vs s4 ⟨o, H4, I4, ps, eo, e4⟩ => ?_
  subst eo e4
  cases pl
  cases pu
  have I5 : Inv X pins σ H4 { s4 with heap := s4.heap.push { cls := .type "slice", data := .fields #[.none, .none, vs] } } := I4.kept (t' := s4.toks) fun b ob q => Heap.get?_push_of_some _ q
  obtain ⟨its, r, ht, hz⟩ := I5.tuple hx
  have hlen := r.length
  show wpAny (model X.prog X.w) X.A (subscriptTail e (.Slice none none (some (.UnaryOp .USub (.Constant (.int 1) k p1) p2)) p3) (.ref a) (.ref s4.heap.objs.size)) (EP X pins σ Q) X.xe { s4 with heap := s4.heap.push { cls := .type "slice", data := .fields #[.none, .none, vs] } }
  refine tail_any (ops := [.ref a, .ref s4.heap.objs.size]) ht.typeIs (PyProof.Rows.slot_tuple_getitem.lookup) ?_ (by with_unfolding_all rfl)
  refine HT.getItem_tuple_rev ht (Heap.IsSliceOf.new _ .none .none vs) ps ?_ (by rw [List.size_toArray]; omega)
  refine ⟨.ref _, _, I5.laid (t' := s4.toks) (o := .tup xs.reverse) (fun b ob q => Heap.get?_push_of_some _ q) (Nat.le_refl _) ?_, rfl, q _ (I5.hok.fresh (Nat.le_refl _))⟩
  exact ⟨by rw [List.length_reverse]; exact hz, _, r.reverse, _, Heap.get?_push_size _ rfl, rfl, _, rfl⟩
def rExtT (K : PySem.W.Frag) : V → List V → Hp → VK → Prop := fun x vs H Q => ∃ l b xs zs, x = .ref l ∧ vs = [.ref b] ∧ H l = some (.lst xs) ∧ SqT K H b zs ∧ xs.length + zs.length ≤ sizeLine ∧ Q .non (upd H l (.lst (xs ++ zs)))
theorem mt_extendT : MtM X "list.extend" (rExtT X.K) := by
  intro pins s σ H x vs v us Q I rx rv h
  obtain ⟨l, b, xs, zs, rfl, rfl, hH, hB, hz, q⟩ := h
  cases rx
  obtain ⟨u, rfl, ru⟩ := rv.one
  cases ru
  obtain ⟨z, its, n, r, hl, e⟩ := I.lstM hH
  obtain ⟨its2, r2, ht, hz2⟩ := I.tuple hB
  obtain ⟨⟨cls2, dd2, data2, sl2⟩, ho2, hc2, n2, hd2⟩ := id ht
  simp only at hc2 hd2
  subst hc2 hd2
  have l2 := r2.length
  have hsz : its.toArray.size + its2.toArray.size ≤ sizeLine := by rw [List.size_toArray, List.size_toArray]; omega
  have hlong : ¬ (!its.toArray.isEmpty && Builtin.List.listTooLong (its.toArray.size + its2.toArray.size)) = true := by
    rw [notLongL hsz, Bool.and_false]
    exact Bool.false_ne_true
  refine call_meets PySem.F.slot_list_extend ⟨_, e, rfl⟩ PySem.F.entry_list_extend (PySem.F.args_list_extend_2 _ _)
    (list_extend_tupW l its.toArray n b its2.toArray n2 dd2 sl2 hlong (by rw [List.size_toArray]; omega) (by omega)) ⟨e, ho2, ?_⟩
  refine ⟨.non, _, I.lset (its' := its ++ its2) hH e (by simp) (r.append r2) ?_, rfl, q⟩
  rw [List.length_append]
  omega
/-- set(t), t a tuple of ints -/
def rSetTI (K : PySem.W.Frag) (w : World) : List V → Hp → VK → Prop := fun xs H Q => ∃ (p : Addr) (ns : List Int), xs = [.ref p] ∧ SqT K H p (ns.map V.int) ∧ ns.length ≤ 1000 ∧ ∀ q c, H q = none → c ≤ ns.length → Q (.ref q) (upd H q (SetO w q (fun j => decide (j ∈ ns)) c))
theorem call_setTI (hc : X.calm = true) : CallR X (.type "set") (rSetTI X.K X.w) := by
  intro pins s σ H xs us Q I r h
  obtain ⟨p, ns, rfl, hq, hl, q⟩ := h
  cases r with
  | cons r rr =>
    cases rr
    cases r
    obtain ⟨its, rv, pt, hz⟩ := I.tuple hq
    have hi : IntsAre its.toArray.toList ns := ints_of_vals rv
    refine call_set_tupI ns (I.ok.hd hc) (show s.heap.IsTuple p its.toArray from pt) hi (by unfold scanBound; omega) fun h' tk c R1 hcn k => ?_
    have hn : H s.heap.objs.size = none := I.hok.fresh (Nat.le_refl _)
    exact ⟨.ref _, upd H s.heap.objs.size (SetO X.w s.heap.objs.size (fun j => decide (j ∈ ns)) c), I.laid (t' := tk) k (Nat.le_refl _) (setO_new R1), rfl, q _ _ hn hcn⟩
end
end Us
set_option maxRecDepth 100000
set_option maxHeartbeats 2000000
/-! the readings, a step each -/
namespace Us
open PySem PySem.Spec PyProof.Rows L2
section
variable {X : Cx}
def rLenU (K : PySem.W.Frag) : List V → Hp → VK → Prop := fun xs H Q => ∃ p ys, xs = [.ref p] ∧ (SqL K H p ys ∨ SqT K H p ys) ∧ Q (.int ys.length) H
theorem call_lenU : CallR X (.builtin "len") (rLenU X.K) := call_len_seq
def rLenS : List V → Hp → VK → Prop := fun xs H Q => ∃ z, xs = [.str z] ∧ z.length ≤ sizeLine ∧ Q (.int z.length) H
theorem call_lenS : CallR X (.builtin "len") rLenS := call_len_str
def rIntU : List V → Hp → VK → Prop := fun xs H Q => (∃ i, xs = [.int i] ∧ Q (.int i) H) ∨ ∃ k, xs = [.bl k] ∧ Q (.int (if k then 1 else 0)) H
theorem call_intU : CallR X (.type "int") rIntU := call_int1
def rAbsU : List V → Hp → VK → Prop := fun xs H Q => ∃ i, xs = [.int i] ∧ Q (.int (if i < 0 then -i else i)) H
theorem call_absU : CallR X (.builtin "abs") rAbsU := call_abs
def rIsNU : R2 := fun x y H Q => y = .non ∧ Q (.bl (decide (x = .non))) H
theorem op_isNU : OpR X (compareOp .Is) rIsNU := op_isN
def rNotNU : R2 := fun x y H Q => y = .non ∧ Q (.bl (!decide (x = .non))) H
theorem op_notNU : OpR X (compareOp .IsNot) rNotNU := op_notN
def rListU (K : PySem.W.Frag) : List V → Hp → VK → Prop := fun xs H Q => ∃ p ys, xs = [.ref p] ∧ (SqL K H p ys ∨ SqT K H p ys) ∧ ∀ l, H l = none → Q (.ref l) (upd H l (.lst ys))
theorem call_listU : CallR X (.type "list") (rListU X.K) := call_list_of
def rTupU (K : PySem.W.Frag) : List V → Hp → VK → Prop := fun xs H Q => ∃ p ys, xs = [.ref p] ∧ ((SqL K H p ys ∧ ∀ l, H l = none → Q (.ref l) (upd H l (.tup ys))) ∨ (SqT K H p ys ∧ Q (.ref p) H))
theorem call_tupU : CallR X (.type "tuple") (rTupU X.K) := call_tuple_of
end
section
variable {K : PySem.W.Frag} {σ : L2.St} {H : Hp} {Q : VK} {D : Ends} {i : Nat} {v x y : V} {ta tb tc te : TE} {t u : TS} {tt tu : TT} {tr : TA} {g : TG}
theorem i_seq (h : t { D with nx := u D } σ H) : tSeq t u D σ H := h
theorem i_asg (h : te σ H fun x H1 => g x σ H1 D.nx) : tAsg te g D σ H := h
theorem i_ret (h : te σ H D.rt) : tRet te D σ H := h
theorem i_retN (h : D.rt .non H) : tRetN D σ H := h
theorem i_ifS (h : tt σ H fun b H1 => if b = true then t D σ H1 else u D σ H1) : tIfS tt t u D σ H := h
theorem i_drop (h : te σ H fun _ H1 => D.nx σ H1) : tDrop te D σ H := h
theorem i_next (h : D.nx σ H) : tNext D σ H := h
theorem i_name {Q : L2.St → Hp → Prop} (h : Q (σ.set i (some v)) H) : gName i v σ H Q := h
theorem i_var (h : σ[i]? = some (some v)) (q : Q v H) : tVar i σ H Q := ⟨v, h, q⟩
theorem i_c (q : Q v H) : tC v σ H Q := q
theorem i_op {r : R2} (h : ta σ H fun x H1 => tb σ H1 fun y H2 => r x y H2 Q) : tOp r ta tb σ H Q := h
theorem i_un {r : V → Hp → VK → Prop} (h : ta σ H fun x H1 => r x H1 Q) : tUn r ta σ H Q := h
theorem i_nil {Q : List V → Hp → Prop} (q : Q [] H) : tNil σ H Q := q
theorem i_cons {Q : List V → Hp → Prop} (h : ta σ H fun x H1 => tr σ H1 fun xs H2 => Q (x :: xs) H2) : tCons ta tr σ H Q := h
theorem i_call {sp : Sp} {E : XK} (h : tr σ H fun vs H1 => sp (vs ++ []) H1 Q E) : tCall sp [] E tr σ H Q := h
theorem i_callS {sp : Sp} {E : L2.St → XK} (h : tr σ H fun vs H1 => sp vs H1 Q (E σ)) : tCallS sp E tr σ H Q := h
theorem i_cb {r : List V → Hp → VK → Prop} (h : tr σ H fun vs H1 => r vs H1 Q) : tCB r tr σ H Q := h
theorem i_tup (h : tr σ H fun xs H1 => xs.length ≤ sizeLine ∧ ∀ p, H1 p = none → Q (.ref p) (upd H1 p (.tup xs))) : tTup tr σ H Q := h
theorem i_lst (h : tr σ H fun xs H1 => xs.length ≤ sizeLine ∧ ∀ p, H1 p = none → Q (.ref p) (upd H1 p (.lst xs))) : tLst tr σ H Q := h
theorem i_b {Q : Bool → Hp → Prop} (h : te σ H fun x H1 => ∃ c, x = .bl c ∧ Q c H1) : tB te σ H Q := h
theorem i_test {Q : Bool → Hp → Prop} (h : te σ H fun x H1 => ∃ c, x = .bl c ∧ Q c H1) : tTest te σ H Q := h
theorem i_and {Q : Bool → Hp → Prop} (h : tt σ H fun c H1 => if c = true then tu σ H1 Q else Q false H1) : tAnd tt tu σ H Q := h
theorem i_or {Q : Bool → Hp → Prop} (h : tt σ H fun c H1 => if c = true then Q true H1 else tu σ H1 Q) : tOr tt tu σ H Q := h
theorem i_not {Q : Bool → Hp → Prop} (h : tt σ H fun c H1 => Q (!c) H1) : tNot tt σ H Q := h
theorem i_yes {Q : Bool → Hp → Prop} (h : Q true H) : tYes σ H Q := h
theorem i_if (h : tt σ H fun c H1 => if c = true then ta σ H1 Q else tb σ H1 Q) : tIf tt ta tb σ H Q := h
theorem i_andV (h : ta σ H fun x H1 => ∃ c, x = .bl c ∧ if c = true then tb σ H1 Q else Q (.bl false) H1) : tAndV ta tb σ H Q := h
theorem i_orV (h : ta σ H fun x H1 => ∃ c, x = .bl c ∧ if c = true then Q (.bl true) H1 else tb σ H1 Q) : tOrV ta tb σ H Q := h
theorem i_notV (h : ta σ H fun x H1 => ∃ c, x = .bl c ∧ Q (.bl (!c)) H1) : tNotV ta σ H Q := h
theorem i_chain {r r' : R2} (h : ta σ H fun x H1 => tb σ H1 fun y H2 => r x y H2 fun z H3 => ∃ k, z = .bl k ∧ (if k = true then tc σ H3 fun w' H4 => r' y w' H4 Q else Q (.bl false) H3)) : tChain r r' ta tb tc σ H Q := h
theorem i_bm0 {T : String} {r : V → List V → Hp → VK → Prop} (h : te σ H fun x H1 => tyV K T x H1 ∧ r x [] H1 Q) : tBM0 K T r te σ H Q := h
theorem i_bm {T : String} {r : V → List V → Hp → VK → Prop} (h : te σ H fun x H1 => tyV K T x H1 ∧ tr σ H1 fun xs H2 => r x xs H2 Q) : tBM K T r te tr σ H Q := h
theorem i_sl {r : V → Option Int → Option Int → Hp → VK → Prop} {tl th : TO} (h : te σ H fun x H1 => tl σ H1 fun l H2 => th σ H2 fun u H3 => r x l u H3 Q) : tSl r te tl th σ H Q := h
theorem i_noPart {Q : Option Int → Hp → Prop} (q : Q none H) : tNoPart σ H Q := q
theorem i_part {Q : Option Int → Hp → Prop} (h : te σ H fun x H1 => ∃ i, x = .int i ∧ Q (some i) H1) : tPart te σ H Q := h
theorem i_sub {to ti : TE} {ts : TSet} {Q : L2.St → Hp → Prop} (h : to σ H fun o H1 => ti σ H1 fun i H2 => ts o i v H2 fun H3 => Q σ H3) : gSub to ti ts v σ H Q := h
theorem i_gtup {n : Nat} {t : TGs} {a : Addr} {xs : List V} {Q : L2.St → Hp → Prop} (h : SqT K H a xs) (e : xs.length = n) (q : t xs σ H Q) : gTup K n t (.ref a) σ H Q := ⟨a, xs, rfl, h, e, q⟩
theorem i_gcons {t : TG} {u : TGs} {r : List V} {Q : L2.St → Hp → Prop} (q : t v σ H fun σ' H' => u r σ' H' Q) : gCons t u (v :: r) σ H Q := ⟨v, r, rfl, q⟩
theorem i_gnil {Q : L2.St → Hp → Prop} (q : Q σ H) : gNil [] σ H Q := ⟨rfl, q⟩
theorem i_aug {ti : TIp} (h : σ[i]? = some (some x)) (q : te σ H fun y H1 => ti x y H1 fun z H2 => D.nx (σ.set i (some z)) H2) : tAug i te ti D σ H := ⟨x, h, q⟩
theorem i_par {j : Nat} {ta : TA} (h : ta σ H fun vs H1 => ∃ v w, vs = [v, w] ∧ D.nx ((σ.set i (some v)).set j (some w)) H1) : tPar i j ta D σ H := h
theorem i_two {a b : V} {P : V → V → Prop} (h : P a b) : ∃ v w, [a, b] = [v, w] ∧ P v w := ⟨a, b, rfl, h⟩
theorem i_iTup {R : It → Hp → Prop} (h : te σ H fun x H1 => ∃ a, x = .ref a ∧ (∃ xs, SqT K H1 a xs) ∧ R (Itt K a) H1) : iTup K te σ H R := h
theorem i_iList {R : It → Hp → Prop} (h : te σ H fun x H1 => ∃ a, x = .ref a ∧ (∃ xs, SqL K H1 a xs) ∧ R (Itl K a) H1) : iList K te σ H R := h
theorem i_iRng1 {R : It → Hp → Prop} (h : tr σ H fun vs H1 => ∃ j : Int, vs = [.int j] ∧ -(2 ^ 62) ≤ j ∧ j < 2 ^ 62 ∧ R (Itr 0 j.toNat) H1) : iRng1 tr σ H R := h
theorem i_revT (h : te σ H fun x H1 => ∃ a xs, x = .ref a ∧ SqT K H1 a xs ∧ ∀ p, H1 p = none → Q (.ref p) (upd H1 p (.tup xs.reverse))) : tRevT K te σ H Q := h
theorem i_for {wi : TI} {tb : TS} (h : wi σ H fun J H1 => ∃ W : Nat → Nat → L2.St → Hp → Prop, (∃ m, W 0 m σ H1) ∧ ∀ i m σ H, W i m σ H →
  (J.stop i H ∧ D.nx σ H) ∨ (J.go i H ∧ ∃ N : L2.St → Hp → Prop, (∀ σ' H', N σ' H' → ∃ m', m' < m ∧ W (i + 1) m' σ' H') ∧ ∀ x H', J.yld i H x H' → g x σ H' fun σ2 H2 => tb { D with nx := N, ct := N, bk := D.nx } σ2 H2)) : tFor wi g tb D σ H := h
theorem i_lc {wi : TI} {vs : List Nat} (h : wi σ H fun J H1 => ∀ D, H1 D = none → ∃ W : Nat → Nat → Hp → Prop, (∃ m, W 0 m (upd H1 D (.lst []))) ∧ ∀ i m H, W i m H →
  (J.stop i H ∧ Q (.ref D) H) ∨ (J.go i H ∧ ∃ Nx : Hp → Prop, (∀ H', Nx H' → ∃ m', m' < m ∧ W (i + 1) m' H') ∧ ∀ x H', J.yld i H x H' → g x (wipe σ vs) H' fun σ2 H2 => wipe σ2 vs = wipe σ vs ∧ tt σ2 H2 fun b H3 =>
    if b = true then te σ2 H3 fun y H4 => ∃ acc, H4 D = some (.lst acc) ∧ acc.length < sizeLine ∧ Nx (upd H4 D (.lst (acc ++ [y]))) else Nx H3)) : tLc wi g tt te vs σ H Q := h
theorem i_ixA {p : Addr} {us : List V} {j : Int} (h : H p = some (.tup us) ∨ H p = some (.lst us)) (a : atI us j = some v) (q : Q v H) : rIx K (.ref p) (.int j) H Q := by
  rcases h with h | h
  · exact .inr (.inl ⟨p, us, j, v, rfl, rfl, SqT.of h, a, q⟩)
  · exact .inl ⟨p, us, j, v, rfl, rfl, SqL.of h, a, q⟩
theorem i_lenA {p : Addr} {us : List V} (h : H p = some (.tup us) ∨ H p = some (.lst us)) (q : Q (.int us.length) H) : rLenU K [V.ref p] H Q := by
  rcases h with h | h
  · exact ⟨p, us, rfl, .inr (SqT.of h), q⟩
  · exact ⟨p, us, rfl, .inl (SqL.of h), q⟩
theorem i_setF {tv : TE} {f : Str} (h : tv σ H fun y H1 => ta σ H1 fun x H2 => ∃ a C dx fs, x = .ref a ∧ H2 a = some (.ins C dx fs) ∧ Cls K C ∧ NoAttr K C f ∧ fs.length < 1000 ∧ D.nx σ (upd H2 a (.ins C dx (putF f y fs)))) : sFld K ta tv f D σ H := h
theorem i_getF {f : Str} (h : ta σ H fun x H1 => ∃ a C dx fs v, x = .ref a ∧ H1 a = some (.ins C dx fs) ∧ Cls K C ∧ NoAttr K C f ∧ fs.lookup f = some v ∧ Q v H1) : tFld K ta f σ H Q := h
theorem i_meth {C : Addr} {m : Str} {sp : Sp} {dvs : List V} {E : XK} (h : ta σ H fun x H1 => ∃ a dx fs, x = .ref a ∧ H1 a = some (.ins C dx fs) ∧ fs.lookup m = none ∧ tr σ H1 fun vs H2 => sp (x :: (vs ++ dvs)) H2 Q E) : tMeth C m sp dvs E ta tr σ H Q := h
theorem i_make {C : Addr} {sp : Sp} {dvs : List V} {E : XK} (h : tr σ H fun vs H1 => ∀ x dx, H1 x = none → H1 dx = none → dx ≠ x → sp (.ref x :: (vs ++ dvs)) (upd (upd H1 dx (.own x)) x (.ins C dx [])) (fun v H2 => v = .non ∧ Q (.ref x) H2) E) : tMake C sp dvs E tr σ H Q := h
theorem i_bl {b : Bool} {P : Bool → Prop} (h : P b) : ∃ c, V.bl b = .bl c ∧ P c := ⟨b, rfl, h⟩
theorem i_int {b : Int} {P : Int → Prop} (h : P b) : ∃ c, V.int b = .int c ∧ P c := ⟨b, rfl, h⟩
theorem i_rI0 {g : Int → Int → V} {a b : Int} (q : Q (g a b) H) : rI0 g (.int a) (.int b) H Q := ⟨a, b, rfl, rfl, q⟩
theorem i_rI {C : Int → Int → Prop} {g : Int → Int → V} {a b : Int} (c : C a b) (q : Q (g a b) H) : rI C g (.int a) (.int b) H Q := ⟨a, b, rfl, rfl, c, q⟩
theorem i_rU {g : Int → V} {a : Int} (q : Q (g a) H) : rU g (.int a) H Q := ⟨a, rfl, q⟩
theorem i_eq (h : scal x y = true) (q : Q (.bl (decide (x = y))) H) : rEq x y H Q := ⟨h, q⟩
theorem i_ne (h : scal x y = true) (q : Q (.bl (!decide (x = y))) H) : rNe x y H Q := ⟨h, q⟩
theorem i_ixL {p : Addr} {xs : List V} {j : Int} (h : SqL K H p xs) (a : atI xs j = some v) (q : Q v H) : rIxL K (.ref p) (.int j) H Q := ⟨p, xs, j, v, rfl, rfl, h, a, q⟩
theorem i_ixT {p : Addr} {xs : List V} {j : Int} (h : SqT K H p xs) (a : atI xs j = some v) (q : Q v H) : rIxT K (.ref p) (.int j) H Q := ⟨p, xs, j, v, rfl, rfl, h, a, q⟩
theorem i_lenL {p : Addr} {xs : List V} (h : SqL K H p xs) (q : Q (.int xs.length) H) : rLenU K [V.ref p] H Q := ⟨p, xs, rfl, .inl h, q⟩
theorem i_lenT {p : Addr} {xs : List V} (h : SqT K H p xs) (q : Q (.int xs.length) H) : rLenU K [V.ref p] H Q := ⟨p, xs, rfl, .inr h, q⟩
theorem i_lenS {z : Str} (h : z.length ≤ sizeLine) (q : Q (.int z.length) H) : rLenS [V.str z] H Q := ⟨z, rfl, h, q⟩
theorem i_intI {a : Int} (q : Q (.int a) H) : rIntU [V.int a] H Q := .inl ⟨a, rfl, q⟩
theorem i_intB {b : Bool} (q : Q (.int (if b then 1 else 0)) H) : rIntU [V.bl b] H Q := .inr ⟨b, rfl, q⟩
theorem i_abs {a : Int} (q : Q (.int (if a < 0 then -a else a)) H) : rAbsU [V.int a] H Q := ⟨a, rfl, q⟩
theorem i_isN (q : Q (.bl (decide (x = .non))) H) : rIsNU x .non H Q := ⟨rfl, q⟩
theorem i_notN (q : Q (.bl (!decide (x = .non))) H) : rNotNU x .non H Q := ⟨rfl, q⟩
theorem i_listL {p : Addr} {xs : List V} (h : SqL K H p xs) (q : ∀ l, H l = none → Q (.ref l) (upd H l (.lst xs))) : rListU K [V.ref p] H Q := ⟨p, xs, rfl, .inl h, q⟩
theorem i_listT {p : Addr} {xs : List V} (h : SqT K H p xs) (q : ∀ l, H l = none → Q (.ref l) (upd H l (.lst xs))) : rListU K [V.ref p] H Q := ⟨p, xs, rfl, .inr h, q⟩
theorem i_tupL {p : Addr} {xs : List V} (h : SqL K H p xs) (q : ∀ l, H l = none → Q (.ref l) (upd H l (.tup xs))) : rTupU K [V.ref p] H Q := ⟨p, xs, rfl, .inl ⟨h, q⟩⟩
theorem i_tupT {p : Addr} {xs : List V} (h : SqT K H p xs) (q : Q (.ref p) H) : rTupU K [V.ref p] H Q := ⟨p, xs, rfl, .inr ⟨h, q⟩⟩
theorem tyL {p : Addr} {xs : List V} (h : H p = some (.lst xs)) : tyV K "list" (.ref p) H := .inl ⟨rfl, _, SqL.of h⟩
theorem i_pop {p : Addr} {xs : List V} (h : H p = some (.lst xs)) (hy : xs[xs.length - 1]? = some y) (q : Q y (upd H p (.lst xs.dropLast))) : tyV K "list" (.ref p) H ∧ rPop (.ref p) [] H Q := ⟨tyL h, p, xs, y, rfl, rfl, h, hy, q⟩
theorem i_app {p : Addr} {xs : List V} (h : H p = some (.lst xs)) (hz : xs.length < sizeLine) (q : Q .non (upd H p (.lst (xs ++ [y])))) : rAppend (.ref p) [y] H Q := ⟨p, xs, y, rfl, rfl, h, hz, q⟩
theorem i_extT {p b : Addr} {xs zs : List V} (h : H p = some (.lst xs)) (hb : SqT K H b zs) (hz : xs.length + zs.length ≤ sizeLine) (q : Q .non (upd H p (.lst (xs ++ zs)))) : rExtT K (.ref p) [.ref b] H Q := ⟨p, b, xs, zs, rfl, rfl, h, hb, hz, q⟩
theorem i_setL {p : Addr} {xs : List V} {k : Int} {j : Nat} {Q : Hp → Prop} (h : H p = some (.lst xs)) (hj : ixN xs.length k = some j) (q : Q (upd H p (.lst (xs.set j v)))) : rSetL (.ref p) (.int k) v H Q := ⟨p, xs, k, j, rfl, rfl, h, hj, q⟩
theorem i_all {p : Addr} {bs : List Bool} (h : SqL K H p (bs.map V.bl)) (q : Q (.bl (bs.all id)) H) : rAll K [.ref p] H Q := ⟨p, bs, rfl, h, q⟩
theorem i_any {p : Addr} {bs : List Bool} (h : SqL K H p (bs.map V.bl)) (q : Q (.bl (bs.any id)) H) : rAny K [.ref p] H Q := ⟨p, bs, rfl, h, q⟩
/-- a display: the new object, then all behind is of the heap with it -/
theorem i_mk {p' : List V} {o : HO} (hz : p'.length ≤ sizeLine) (q : ∀ p, H p = none → Q (.ref p) (upd H p o)) : p'.length ≤ sizeLine ∧ ∀ p, H p = none → Q (.ref p) (upd H p o) := ⟨hz, q⟩
end
theorem i_while {c : TT} {tb : TS} {D : Ends} {σ : L2.St} {H : Hp} (W : Nat → L2.St → Hp → Prop) (m0 : Nat) (h0 : W m0 σ H)
    (hs : ∀ m σ H, W m σ H → c σ H fun b H1 => if b = true then ∃ N : L2.St → Hp → Prop, (∀ σ' H', N σ' H' → ∃ m', m' < m ∧ W m' σ' H') ∧ tb { D with nx := N, ct := N, bk := D.nx } σ H1 else D.nx σ H1) : tWhile c tb D σ H := ⟨W, ⟨m0, h0⟩, hs⟩
theorem i_turn {W : Nat → L2.St → Hp → Prop} {tb : TS} {D : Ends} {σ : L2.St} {H : Hp} {m : Nat} (h : tb { D with nx := fun σ' H' => ∃ m', m' < m ∧ W m' σ' H', ct := fun σ' H' => ∃ m', m' < m ∧ W m' σ' H', bk := D.nx } σ H) :
    ∃ N : L2.St → Hp → Prop, (∀ σ' H', N σ' H' → ∃ m', m' < m ∧ W m' σ' H') ∧ tb { D with nx := N, ct := N, bk := D.nx } σ H := ⟨_, fun _ _ h => h, h⟩
theorem atI0 {α : Type} {x : α} {xs : List α} : atI (x :: xs) 0 = some x := atI_nat (j := 0) rfl
theorem atI1 {α : Type} {x y : α} {xs : List α} : atI (x :: y :: xs) 1 = some y := atI_nat (j := 1) rfl
theorem atI2 {α : Type} {x y z : α} {xs : List α} : atI (x :: y :: z :: xs) 2 = some z := atI_nat (j := 2) rfl
theorem atI3 {α : Type} {x y z u : α} {xs : List α} : atI (x :: y :: z :: u :: xs) 3 = some u := atI_nat (j := 3) rfl
theorem atI4 {α : Type} {x y z u t : α} {xs : List α} : atI (x :: y :: z :: u :: t :: xs) 4 = some t := atI_nat (j := 4) rfl
theorem sz5 {n : Nat} (h : n ≤ 1000000) : n ≤ sizeLine := Nat.le_trans h (by decide)
theorem sz5' {n : Nat} (h : n < 1000000) : n < sizeLine := Nat.lt_of_lt_of_le h (by decide)
theorem rev_last {α : Type} (z : α) (zs : List α) : (z :: zs).reverse[(z :: zs).reverse.length - 1]? = some z := by
  rw [List.reverse_cons]
  simp
theorem rev_drop {α : Type} (z : α) (zs : List α) : (z :: zs).reverse.dropLast = zs.reverse := by
  rw [List.reverse_cons, List.dropLast_concat]
theorem i_case {c : Bool} {A B : Prop} (h1 : c = true → A) (h2 : c = false → B) : if c = true then A else B := by
  cases c with
  | true => exact iteT (h1 rfl)
  | false => exact iteF (h2 rfl)
theorem nT {b : Bool} (h : (!b) = true) : b = false := by cases b <;> first | rfl | cases h
theorem nF {b : Bool} (h : (!b) = false) : b = true := by cases b <;> first | rfl | cases h
theorem i_join {t : TS} {D : Ends} {σ : L2.St} {H : Hp} (P : L2.St → Hp → Prop) (hr : ∀ σ' H', P σ' H' → D.nx σ' H') (h : (∀ σ' H', P σ' H' → D.nx σ' H') → t D σ H) : t D σ H := h hr
/-- forgetting the slots of a comprehension's own names -/
theorem atN {α : Type} {us : List α} {i : Nat} {x : α} (h : us[i]? = some x) : atI us (0 + (i : Int)) = some x := by rw [Int.zero_add]; exact atI_nat h
theorem none_upd {H : Hp} {a b : Addr} {o : HO} (h : upd H a o b = none) : b ≠ a ∧ H b = none := by
  by_cases e : b = a
  · subst e; rw [upd_same] at h; cases h
  · exact ⟨e, by rw [upd_ne e] at h; exact h⟩
theorem dI (a b : Int) : decide (V.int a = V.int b) = decide (a = b) := by
  by_cases h : a = b
  · subst h; simp
  · rw [decide_eq_false h, decide_eq_false (fun z => h (V.int.inj z))]
theorem dB (a b : Bool) : decide (V.bl a = V.bl b) = (a == b) := by cases a <;> cases b <;> rfl
theorem dS (a b : Str) : decide (V.str a = V.str b) = decide (a = b) := by
  by_cases h : a = b
  · subst h; simp
  · rw [decide_eq_false h, decide_eq_false (fun z => h (V.str.inj z))]
end Us
/-! words for the readings -/
local macro_rules | `(tactic| walk_at "st") => `(tactic| first
  | (with_reducible refine Us.i_seq ?_)
  | (with_reducible refine Us.i_asg ?_)
  | (with_reducible refine Us.i_ret ?_)
  | (with_reducible refine Us.i_ifS ?_)
  | (with_reducible refine Us.i_name ?_)
  | ((with_reducible refine' Us.i_var ?h ?_); case h => exact rfl)
  | (with_reducible refine Us.i_c ?_)
  | (with_reducible refine Us.i_gcons ?_)
  | (with_reducible refine Us.i_for ?_)
  | (with_reducible refine Us.i_lc ?_)
  | (with_reducible refine Us.i_iTup ?_)
  | (with_reducible refine Us.i_iList ?_)
  | (with_reducible refine Us.i_iRng1 ?_)
  | (with_reducible refine Us.i_revT ?_)
  | (with_reducible refine Us.i_gnil ?_)
  | (with_reducible refine Us.i_par ?_)
  | (with_reducible refine Us.i_setF ?_)
  | (with_reducible refine Us.i_getF ?_)
  | (with_reducible refine Us.i_meth ?_)
  | (with_reducible refine Us.i_make ?_)
  | (with_reducible refine Us.i_two ?_)
  | ((with_reducible refine' Us.i_aug ?h ?_); case h => exact rfl)
  | (with_reducible refine Us.i_op ?_)
  | (with_reducible refine Us.i_cons ?_)
  | (with_reducible refine Us.i_nil ?_)
  | (with_reducible refine Us.i_call ?_)
  | (with_reducible refine Us.i_callS ?_)
  | (with_reducible refine Us.i_cb ?_)
  | (with_reducible refine Us.i_tup ?_)
  | (with_reducible refine Us.i_lst ?_)
  | (with_reducible refine Us.i_b ?_)
  | (with_reducible refine Us.i_test ?_)
  | (with_reducible refine Us.i_and ?_)
  | (with_reducible refine Us.i_or ?_)
  | (with_reducible refine Us.i_not ?_)
  | (with_reducible refine Us.i_yes ?_)
  | (with_reducible refine Us.i_if ?_)
  | (with_reducible refine Us.i_andV ?_)
  | (with_reducible refine Us.i_orV ?_)
  | (with_reducible refine Us.i_notV ?_)
  | (with_reducible refine Us.i_chain ?_)
  | (with_reducible refine Us.i_bm0 ?_)
  | (with_reducible refine Us.i_bm ?_)
  | (with_reducible refine Us.i_sl ?_)
  | (with_reducible refine Us.i_noPart ?_)
  | (with_reducible refine Us.i_part ?_)
  | (with_reducible refine Us.i_sub ?_)
  | (with_reducible refine Us.i_un ?_)
  | (with_reducible refine Us.i_drop ?_)
  | (with_reducible refine' Us.i_next ?_)
  | (with_reducible refine Us.i_retN ?_)
  | (with_reducible refine Us.i_bl ?_)
  | (with_reducible refine Us.i_int ?_)
  | (with_reducible refine Us.i_rI0 ?_)
  | (with_reducible refine Us.i_rU ?_)
  | (with_reducible refine Us.i_isN ?_)
  | (with_reducible refine Us.i_notN ?_)
  | (with_reducible refine Us.i_intI ?_)
  | (with_reducible refine Us.i_intB ?_)
  | ((with_reducible refine' Us.i_eq ?h ?_); case h => exact rfl)
  | ((with_reducible refine' Us.i_ne ?h ?_); case h => exact rfl)
  | ((with_reducible refine' Us.i_isi ?hs ?sh ?_ ?hn); (case hs => assumption); (case sh => assumption); (case hn => decide))
  | (with_reducible refine L2.iteT ?_)
  | (with_reducible refine L2.iteF ?_))
local macro_rules | `(tactic| walk_at "go") => `(tactic| repeat walk_at "st")
set_option maxRecDepth 100000
set_option maxHeartbeats 0
namespace K06
open PySem PySem.Spec PyProof.Rows L2
/-! ### the text by places -/
def topS (i : Nat) : Stmt := PySem.Challenge.pw_usecounts_k06_whole_kinds_judged_and_bui.main.body.getD i (.Pass ⟨0, 0, 0, 0⟩)
abbrev s_is_integer : Stmt := topS 5
abbrev s_is_within : Stmt := topS 6
abbrev s_is_pair : Stmt := topS 7
abbrev s_is_kind_there : Stmt := topS 12
abbrev s_is_kind : Stmt := topS 13
abbrev s_is_kind_of_any_size : Stmt := topS 14
abbrev s_check_kind : Stmt := topS 15
abbrev s_lefts_of : Stmt := topS 16
abbrev s_end_of : Stmt := topS 17
abbrev s_built_of : Stmt := topS 18
abbrev s_lefts : Stmt := topS 19
abbrev s_end : Stmt := topS 20
abbrev s_built : Stmt := topS 21
abbrev s_leasts_of : Stmt := topS 29
abbrev s_is_sum : Stmt := topS 30
abbrev s_needed_makers : Stmt := topS 31
abbrev s_are_makers : Stmt := topS 32
abbrev s_Lot__init : Stmt := inClass (topS 33) 0
abbrev s_Lot_keep : Stmt := inClass (topS 33) 1
abbrev s_Lot__eq : Stmt := inClass (topS 33) 2
abbrev s_law_hand : Stmt := topS 35
abbrev s_law_draw : Stmt := topS 36
abbrev s_law_some : Stmt := topS 37
abbrev s_law_is : Stmt := topS 38
abbrev s_law_deep : Stmt := topS 39
abbrev s_law_flag : Stmt := topS 40
abbrev s_law_kind : Stmt := topS 41
abbrev s_law_ends : Stmt := topS 42
abbrev s_law_is_kind : Stmt := topS 43
abbrev s_law_great : Stmt := topS 44
abbrev s_law_bent : Stmt := topS 45
abbrev s_law_told : Stmt := topS 46
abbrev s_law : Stmt := topS 47
abbrev n_is_integer : List Str := ["thing"]
abbrev p_is_integer : List Str := ["thing"]
theorem sc_is_integer : FnScope n_is_integer p_is_integer (defScope s_is_integer) := ⟨rfl, rfl, rfl, by decide +kernel, rfl, by decide +kernel, by decide +kernel⟩
abbrev n_is_within : List Str := ["thing", "least", "most"]
abbrev p_is_within : List Str := ["thing", "least", "most"]
theorem sc_is_within : FnScope n_is_within p_is_within (defScope s_is_within) := ⟨rfl, rfl, rfl, by decide +kernel, rfl, by decide +kernel, by decide +kernel⟩
abbrev n_is_pair : List Str := ["thing"]
abbrev p_is_pair : List Str := ["thing"]
theorem sc_is_pair : FnScope n_is_pair p_is_pair (defScope s_is_pair) := ⟨rfl, rfl, rfl, by decide +kernel, rfl, by decide +kernel, by decide +kernel⟩
abbrev n_is_kind_there : List Str := ["thing", "waiting", "letters", "here", "deep"]
abbrev p_is_kind_there : List Str := ["thing"]
theorem sc_is_kind_there : FnScope n_is_kind_there p_is_kind_there (defScope s_is_kind_there) := ⟨rfl, rfl, rfl, by decide +kernel, rfl, by decide +kernel, by decide +kernel⟩
abbrev n_is_kind : List Str := ["thing"]
abbrev p_is_kind : List Str := ["thing"]
theorem sc_is_kind : FnScope n_is_kind p_is_kind (defScope s_is_kind) := ⟨rfl, rfl, rfl, by decide +kernel, rfl, by decide +kernel, by decide +kernel⟩
abbrev n_is_kind_of_any_size : List Str := ["thing", "waiting", "here"]
abbrev p_is_kind_of_any_size : List Str := ["thing"]
theorem sc_is_kind_of_any_size : FnScope n_is_kind_of_any_size p_is_kind_of_any_size (defScope s_is_kind_of_any_size) := ⟨rfl, rfl, rfl, by decide +kernel, rfl, by decide +kernel, by decide +kernel⟩
abbrev n_check_kind : List Str := ["thing"]
abbrev p_check_kind : List Str := ["thing"]
theorem sc_check_kind : FnScope n_check_kind p_check_kind (defScope s_check_kind) := ⟨rfl, rfl, rfl, by decide +kernel, rfl, by decide +kernel, by decide +kernel⟩
abbrev n_lefts_of : List Str := ["kind", "found"]
abbrev p_lefts_of : List Str := ["kind"]
theorem sc_lefts_of : FnScope n_lefts_of p_lefts_of (defScope s_lefts_of) := ⟨rfl, rfl, rfl, by decide +kernel, rfl, by decide +kernel, by decide +kernel⟩
abbrev n_end_of : List Str := ["kind"]
abbrev p_end_of : List Str := ["kind"]
theorem sc_end_of : FnScope n_end_of p_end_of (defScope s_end_of) := ⟨rfl, rfl, rfl, by decide +kernel, rfl, by decide +kernel, by decide +kernel⟩
abbrev n_built_of : List Str := ["lefts_there", "kind", "left"]
abbrev p_built_of : List Str := ["lefts_there", "kind"]
theorem sc_built_of : FnScope n_built_of p_built_of (defScope s_built_of) := ⟨rfl, rfl, rfl, by decide +kernel, rfl, by decide +kernel, by decide +kernel⟩
abbrev n_lefts : List Str := ["kind"]
abbrev p_lefts : List Str := ["kind"]
theorem sc_lefts : FnScope n_lefts p_lefts (defScope s_lefts) := ⟨rfl, rfl, rfl, by decide +kernel, rfl, by decide +kernel, by decide +kernel⟩
abbrev n_end : List Str := ["kind"]
abbrev p_end : List Str := ["kind"]
theorem sc_end : FnScope n_end p_end (defScope s_end) := ⟨rfl, rfl, rfl, by decide +kernel, rfl, by decide +kernel, by decide +kernel⟩
abbrev n_built : List Str := ["lefts_there", "letter", "left"]
abbrev p_built : List Str := ["lefts_there", "letter"]
theorem sc_built : FnScope n_built p_built (defScope s_built) := ⟨rfl, rfl, rfl, by decide +kernel, rfl, by decide +kernel, by decide +kernel⟩
abbrev n_leasts_of : List Str := ["makers", "first", "found", "grown", "rest", "maker", "later", "known"]
abbrev p_leasts_of : List Str := ["makers"]
theorem sc_leasts_of : FnScope n_leasts_of p_leasts_of (defScope s_leasts_of) := ⟨rfl, rfl, rfl, by decide +kernel, rfl, by decide +kernel, by decide +kernel⟩
abbrev n_is_sum : List Str := ["leasts", "number", "least"]
abbrev p_is_sum : List Str := ["leasts", "number"]
theorem sc_is_sum : FnScope n_is_sum p_is_sum (defScope s_is_sum) := ⟨rfl, rfl, rfl, by decide +kernel, rfl, by decide +kernel, by decide +kernel⟩
abbrev n_needed_makers : List Str := ["makers", "found", "leasts", "maker"]
abbrev p_needed_makers : List Str := ["makers"]
theorem sc_needed_makers : FnScope n_needed_makers p_needed_makers (defScope s_needed_makers) := ⟨rfl, rfl, rfl, by decide +kernel, rfl, by decide +kernel, by decide +kernel⟩
abbrev n_are_makers : List Str := ["thing", "most", "maker"]
abbrev p_are_makers : List Str := ["thing", "most"]
theorem sc_are_makers : FnScope n_are_makers p_are_makers (defScope s_are_makers) := ⟨rfl, rfl, rfl, by decide +kernel, rfl, by decide +kernel, by decide +kernel⟩
abbrev n_Lot__init : List Str := ["self", "word", "makers"]
abbrev p_Lot__init : List Str := ["self", "word", "makers"]
theorem sc_Lot__init : FnScope n_Lot__init p_Lot__init (defScope s_Lot__init) := ⟨rfl, rfl, rfl, by decide +kernel, rfl, by decide +kernel, by decide +kernel⟩
abbrev n_Lot_keep : List Str := ["self", "word", "makers"]
abbrev p_Lot_keep : List Str := ["self", "word", "makers"]
theorem sc_Lot_keep : FnScope n_Lot_keep p_Lot_keep (defScope s_Lot_keep) := ⟨rfl, rfl, rfl, by decide +kernel, rfl, by decide +kernel, by decide +kernel⟩
abbrev n_Lot__eq : List Str := ["self", "other"]
abbrev p_Lot__eq : List Str := ["self", "other"]
theorem sc_Lot__eq : FnScope n_Lot__eq p_Lot__eq (defScope s_Lot__eq) := ⟨rfl, rfl, rfl, by decide +kernel, rfl, by decide +kernel, by decide +kernel⟩
abbrev n_law_hand : List Str := ["_law_script", "_law_cells", "_law_cell"]
abbrev p_law_hand : List Str := ["_law_script"]
theorem sc_law_hand : FnScope n_law_hand p_law_hand (defScope s_law_hand) := ⟨rfl, rfl, rfl, by decide +kernel, rfl, by decide +kernel, by decide +kernel⟩
abbrev n_law_draw : List Str := ["_law_hand_here", "_law_many", "_law_cell", "_law_digit", "_law_number"]
abbrev p_law_draw : List Str := ["_law_hand_here", "_law_many"]
theorem sc_law_draw : FnScope n_law_draw p_law_draw (defScope s_law_draw) := ⟨rfl, rfl, rfl, by decide +kernel, rfl, by decide +kernel, by decide +kernel⟩
abbrev n_law_some : List Str := ["_law_hand_here", "_law_things"]
abbrev p_law_some : List Str := ["_law_hand_here", "_law_things"]
theorem sc_law_some : FnScope n_law_some p_law_some (defScope s_law_some) := ⟨rfl, rfl, rfl, by decide +kernel, rfl, by decide +kernel, by decide +kernel⟩
abbrev n_law_is : List Str := ["_law_told_here", "_law_due", "_law_k", "_law_key"]
abbrev p_law_is : List Str := ["_law_told_here", "_law_due"]
theorem sc_law_is : FnScope n_law_is p_law_is (defScope s_law_is) := ⟨rfl, rfl, rfl, by decide +kernel, rfl, by decide +kernel, by decide +kernel⟩
abbrev n_law_deep : List Str := ["_law_kind_here", "_law_found", "_law_turn"]
abbrev p_law_deep : List Str := ["_law_kind_here"]
theorem sc_law_deep : FnScope n_law_deep p_law_deep (defScope s_law_deep) := ⟨rfl, rfl, rfl, by decide +kernel, rfl, by decide +kernel, by decide +kernel⟩
abbrev n_law_flag : List Str := ["_law_told_here", "_law_due"]
abbrev p_law_flag : List Str := ["_law_told_here", "_law_due"]
theorem sc_law_flag : FnScope n_law_flag p_law_flag (defScope s_law_flag) := ⟨rfl, rfl, rfl, by decide +kernel, rfl, by decide +kernel, by decide +kernel⟩
abbrev n_law_kind : List Str := ["_law_hand_here", "_law_deep_here"]
abbrev p_law_kind : List Str := ["_law_hand_here", "_law_deep_here"]
theorem sc_law_kind : FnScope n_law_kind p_law_kind (defScope s_law_kind) := ⟨rfl, rfl, rfl, by decide +kernel, rfl, by decide +kernel, by decide +kernel⟩
abbrev n_law_ends : List Str := ["_law_kind_here", "_law_found"]
abbrev p_law_ends : List Str := ["_law_kind_here"]
theorem sc_law_ends : FnScope n_law_ends p_law_ends (defScope s_law_ends) := ⟨rfl, rfl, rfl, by decide +kernel, rfl, by decide +kernel, by decide +kernel⟩
abbrev n_law_is_kind : List Str := ["_law_thing", "_law_layer", "_law_letters", "_law_deep_here", "_law_later", "_law_here"]
abbrev p_law_is_kind : List Str := ["_law_thing"]
theorem sc_law_is_kind : FnScope n_law_is_kind p_law_is_kind (defScope s_law_is_kind) := ⟨rfl, rfl, rfl, by decide +kernel, rfl, by decide +kernel, by decide +kernel⟩
abbrev n_law_great : List Str := ["_law_hand_here", "_law_found", "_law_turn", "_law_at"]
abbrev p_law_great : List Str := ["_law_hand_here"]
theorem sc_law_great : FnScope n_law_great p_law_great (defScope s_law_great) := ⟨rfl, rfl, rfl, by decide +kernel, rfl, by decide +kernel, by decide +kernel⟩
abbrev n_law_bent : List Str := ["_law_hand_here", "_law_kind_here", "_law_things"]
abbrev p_law_bent : List Str := ["_law_hand_here", "_law_kind_here"]
theorem sc_law_bent : FnScope n_law_bent p_law_bent (defScope s_law_bent) := ⟨rfl, rfl, rfl, by decide +kernel, rfl, by decide +kernel, by decide +kernel⟩
abbrev n_law_told : List Str := ["_law_which", "_law_one", "_law_other", "_law_word", "e"]
abbrev p_law_told : List Str := ["_law_which", "_law_one", "_law_other"]
theorem sc_law_told : FnScope n_law_told p_law_told (defScope s_law_told) := ⟨rfl, rfl, rfl, by decide +kernel, rfl, by decide +kernel, by decide +kernel⟩
abbrev n_law : List Str := ["_law_script", "_law_hand_here", "_law_turn", "_law_kind_here", "_law_told_here", "_law_thing", "_law_due", "_law_odd"]
abbrev p_law : List Str := ["_law_script"]
theorem sc_law : FnScope n_law p_law (defScope s_law) := ⟨rfl, rfl, rfl, by decide +kernel, rfl, by decide +kernel, by decide +kernel⟩

def d_is_integer : He.DefD := ⟨("is_integer", none), "is_integer", "is_integer", defArgs s_is_integer, defBody s_is_integer, defScope s_is_integer, [], []⟩
def d_is_within : He.DefD := ⟨("is_within", none), "is_within", "is_within", defArgs s_is_within, defBody s_is_within, defScope s_is_within, [], []⟩
def d_is_pair : He.DefD := ⟨("is_pair", none), "is_pair", "is_pair", defArgs s_is_pair, defBody s_is_pair, defScope s_is_pair, [], []⟩
def d_is_kind_there : He.DefD := ⟨("is_kind_there", none), "is_kind_there", "is_kind_there", defArgs s_is_kind_there, defBody s_is_kind_there, defScope s_is_kind_there, [], []⟩
def d_is_kind : He.DefD := ⟨("is_kind", none), "is_kind", "is_kind", defArgs s_is_kind, defBody s_is_kind, defScope s_is_kind, [], []⟩
def d_is_kind_of_any_size : He.DefD := ⟨("is_kind_of_any_size", none), "is_kind_of_any_size", "is_kind_of_any_size", defArgs s_is_kind_of_any_size, defBody s_is_kind_of_any_size, defScope s_is_kind_of_any_size, [], []⟩
def d_check_kind : He.DefD := ⟨("check_kind", none), "check_kind", "check_kind", defArgs s_check_kind, defBody s_check_kind, defScope s_check_kind, [], []⟩
def d_lefts_of : He.DefD := ⟨("lefts_of", none), "lefts_of", "lefts_of", defArgs s_lefts_of, defBody s_lefts_of, defScope s_lefts_of, [], []⟩
def d_end_of : He.DefD := ⟨("end_of", none), "end_of", "end_of", defArgs s_end_of, defBody s_end_of, defScope s_end_of, [], []⟩
def d_built_of : He.DefD := ⟨("built_of", none), "built_of", "built_of", defArgs s_built_of, defBody s_built_of, defScope s_built_of, [], []⟩
def d_lefts : He.DefD := ⟨("lefts", none), "lefts", "lefts", defArgs s_lefts, defBody s_lefts, defScope s_lefts, [], []⟩
def d_end : He.DefD := ⟨("end", none), "end", "end", defArgs s_end, defBody s_end, defScope s_end, [], []⟩
def d_built : He.DefD := ⟨("built", none), "built", "built", defArgs s_built, defBody s_built, defScope s_built, [], []⟩
def d_leasts_of : He.DefD := ⟨("leasts_of", none), "leasts_of", "leasts_of", defArgs s_leasts_of, defBody s_leasts_of, defScope s_leasts_of, [], []⟩
def d_is_sum : He.DefD := ⟨("is_sum", none), "is_sum", "is_sum", defArgs s_is_sum, defBody s_is_sum, defScope s_is_sum, [], []⟩
def d_needed_makers : He.DefD := ⟨("needed_makers", none), "needed_makers", "needed_makers", defArgs s_needed_makers, defBody s_needed_makers, defScope s_needed_makers, [], []⟩
def d_are_makers : He.DefD := ⟨("are_makers", none), "are_makers", "are_makers", defArgs s_are_makers, defBody s_are_makers, defScope s_are_makers, [], []⟩
def d_Lot__init : He.DefD := ⟨("Lot", some "__init__"), "__init__", "Lot.__init__", defArgs s_Lot__init, defBody s_Lot__init, defScope s_Lot__init, [], []⟩
def d_Lot_keep : He.DefD := ⟨("Lot", some "keep"), "keep", "Lot.keep", defArgs s_Lot_keep, defBody s_Lot_keep, defScope s_Lot_keep, [], []⟩
def d_Lot__eq : He.DefD := ⟨("Lot", some "__eq__"), "__eq__", "Lot.__eq__", defArgs s_Lot__eq, defBody s_Lot__eq, defScope s_Lot__eq, [], []⟩
def d_law_hand : He.DefD := ⟨("_law_hand", none), "_law_hand", "_law_hand", defArgs s_law_hand, defBody s_law_hand, defScope s_law_hand, [], []⟩
def d_law_draw : He.DefD := ⟨("_law_draw", none), "_law_draw", "_law_draw", defArgs s_law_draw, defBody s_law_draw, defScope s_law_draw, [], []⟩
def d_law_some : He.DefD := ⟨("_law_some", none), "_law_some", "_law_some", defArgs s_law_some, defBody s_law_some, defScope s_law_some, [], []⟩
def d_law_is : He.DefD := ⟨("_law_is", none), "_law_is", "_law_is", defArgs s_law_is, defBody s_law_is, defScope s_law_is, [], []⟩
def d_law_deep : He.DefD := ⟨("_law_deep", none), "_law_deep", "_law_deep", defArgs s_law_deep, defBody s_law_deep, defScope s_law_deep, [], []⟩
def d_law_flag : He.DefD := ⟨("_law_flag", none), "_law_flag", "_law_flag", defArgs s_law_flag, defBody s_law_flag, defScope s_law_flag, [], []⟩
def d_law_kind : He.DefD := ⟨("_law_kind", none), "_law_kind", "_law_kind", defArgs s_law_kind, defBody s_law_kind, defScope s_law_kind, [], []⟩
def d_law_ends : He.DefD := ⟨("_law_ends", none), "_law_ends", "_law_ends", defArgs s_law_ends, defBody s_law_ends, defScope s_law_ends, [], []⟩
def d_law_is_kind : He.DefD := ⟨("_law_is_kind", none), "_law_is_kind", "_law_is_kind", defArgs s_law_is_kind, defBody s_law_is_kind, defScope s_law_is_kind, [], []⟩
def d_law_great : He.DefD := ⟨("_law_great", none), "_law_great", "_law_great", defArgs s_law_great, defBody s_law_great, defScope s_law_great, [], []⟩
def d_law_bent : He.DefD := ⟨("_law_bent", none), "_law_bent", "_law_bent", defArgs s_law_bent, defBody s_law_bent, defScope s_law_bent, [], []⟩
def d_law_told : He.DefD := ⟨("_law_told", none), "_law_told", "_law_told", defArgs s_law_told, defBody s_law_told, defScope s_law_told, [], []⟩
def d_law : He.DefD := ⟨("law", none), "law", "law", defArgs s_law, defBody s_law, defScope s_law, [], []⟩
def fn : List He.DefD := [d_is_integer, d_is_within, d_is_pair, d_is_kind_there, d_is_kind, d_is_kind_of_any_size, d_check_kind, d_lefts_of, d_end_of, d_built_of, d_lefts, d_end, d_built, d_leasts_of, d_is_sum, d_needed_makers, d_are_makers, d_Lot__init, d_Lot_keep, d_Lot__eq, d_law_hand, d_law_draw, d_law_some, d_law_is, d_law_deep, d_law_flag, d_law_kind, d_law_ends, d_law_is_kind, d_law_great, d_law_bent, d_law_told, d_law]
def fa : List He.Fa := [.glo "is_integer", .glo "is_within", .glo "is_pair", .glo "is_kind_there", .glo "is_kind", .glo "is_kind_of_any_size", .glo "check_kind", .glo "lefts_of", .glo "end_of", .glo "built_of", .glo "lefts", .glo "end", .glo "built", .glo "leasts_of", .glo "is_sum", .glo "needed_makers", .glo "are_makers", .glo "_law_hand", .glo "_law_draw", .glo "_law_some", .glo "_law_is", .glo "_law_deep", .glo "_law_flag", .glo "_law_kind", .glo "_law_ends", .glo "_law_is_kind", .glo "_law_great", .glo "_law_bent", .glo "_law_told", .glo "law", .glo "CountsError", .glo "BadLot", .glo "NoKind", .glo "Lot", .free "ValueError", .free "isinstance", .free "tuple", .free "sorted", .free "dict", .free "range", .free "int", .free "len", .free "set", .free "abs", .free "list", .free "bool", .free "all", .free "any", .free "super", .free "str", .int "MOST_LETTERS" 60, .int "MOST_DEEP" 30, .int "LAST_LETTER" 25, .str "ONCE" "once", .str "LOAN" "loan", .str "FREE" "free", .str "MORE" "more", .int "MOST_MAKERS" 4, .int "MOST_MAKER" 12, .cls "Lot", .mkr "Lot", .meth "Lot" "keep", .noat "Lot" "word", .noat "Lot" "makers", .noat "Lot" "leasts", .exc "NoKind", .exm "NoKind" "CountsError" true]

def ex (K : PySem.W.Frag) : Bool := Us.ownCB K (He.ga K "Lot") && (decide (PySem.W.kitOne K (.ref (He.ga K "NoKind")) (.ref (He.ga K "NoKind")) = some true) && (decide (PySem.W.kitOne K (.ref (He.ga K "NoKind")) (.type "ValueError") = some true) && Us.excCB K (He.ga K "NoKind")))
abbrev R : PySem.W.OpenRow := PySem.W.OpenLaw.row PySem.Challenge.rw_usecounts_k06_whole_kinds_judged_and_bui
abbrev hk : PySem.W.Hook := Us.hookX 6 fa fn ex
def ob (s : PySem.W.SharedT) : Us.AlX := Us.obsXG 6 fa fn ex (HandSHeadRun.getT s)
theorem ob_eq (s : PySem.W.SharedT) : ob s = hk.obs s.abs := Us.obsXG_eq (HandSHeadRun.getT_eq s)
def loose : List Str := (["CountsError", "BadLot", "NoKind", "is_integer", "is_within", "is_pair", "MOST_LETTERS", "MOST_DEEP", "LAST_LETTER", "is_kind_there", "is_kind", "is_kind_of_any_size", "check_kind", "lefts_of", "end_of", "built_of", "lefts", "end", "built", "ONCE", "LOAN", "FREE", "MORE", "MOST_MAKERS", "MOST_MAKER", "leasts_of", "is_sum", "needed_makers", "are_makers", "Lot"] : List Str) ++ (["_law_hand", "_law_draw", "_law_some", "_law_is", "_law_deep", "_law_flag", "_law_kind", "_law_ends", "_law_is_kind", "_law_great", "_law_bent", "_law_told"] : List Str)
theorem run (w : World) : HandSHeadRun.RunEq R (PySem.W.view R.prog [47]) hk ob 4000 loose w := by
  intro os
  kernel_rfl
structure Txt (K : PySem.W.Frag) (mg : Str → Option Value) : Prop where
  d_is_integer : Us.DefAt K mg "is_integer" s_is_integer
  d_is_within : Us.DefAt K mg "is_within" s_is_within
  d_is_pair : Us.DefAt K mg "is_pair" s_is_pair
  d_is_kind_there : Us.DefAt K mg "is_kind_there" s_is_kind_there
  d_is_kind : Us.DefAt K mg "is_kind" s_is_kind
  d_is_kind_of_any_size : Us.DefAt K mg "is_kind_of_any_size" s_is_kind_of_any_size
  d_check_kind : Us.DefAt K mg "check_kind" s_check_kind
  d_lefts_of : Us.DefAt K mg "lefts_of" s_lefts_of
  d_end_of : Us.DefAt K mg "end_of" s_end_of
  d_built_of : Us.DefAt K mg "built_of" s_built_of
  d_lefts : Us.DefAt K mg "lefts" s_lefts
  d_end : Us.DefAt K mg "end" s_end
  d_built : Us.DefAt K mg "built" s_built
  d_leasts_of : Us.DefAt K mg "leasts_of" s_leasts_of
  d_is_sum : Us.DefAt K mg "is_sum" s_is_sum
  d_needed_makers : Us.DefAt K mg "needed_makers" s_needed_makers
  d_are_makers : Us.DefAt K mg "are_makers" s_are_makers
  d_Lot__init : ∃ fd, FunD K "__init__" "Lot.__init__" (defArgs s_Lot__init) (defBody s_Lot__init) (defScope s_Lot__init) [] [] (He.ma K (He.ga K "Lot") "__init__") fd
  d_Lot_keep : ∃ fd, FunD K "keep" "Lot.keep" (defArgs s_Lot_keep) (defBody s_Lot_keep) (defScope s_Lot_keep) [] [] (He.ma K (He.ga K "Lot") "keep") fd
  d_Lot__eq : ∃ fd, FunD K "__eq__" "Lot.__eq__" (defArgs s_Lot__eq) (defBody s_Lot__eq) (defScope s_Lot__eq) [] [] (He.ma K (He.ga K "Lot") "__eq__") fd
  d_law_hand : Us.DefAt K mg "_law_hand" s_law_hand
  d_law_draw : Us.DefAt K mg "_law_draw" s_law_draw
  d_law_some : Us.DefAt K mg "_law_some" s_law_some
  d_law_is : Us.DefAt K mg "_law_is" s_law_is
  d_law_deep : Us.DefAt K mg "_law_deep" s_law_deep
  d_law_flag : Us.DefAt K mg "_law_flag" s_law_flag
  d_law_kind : Us.DefAt K mg "_law_kind" s_law_kind
  d_law_ends : Us.DefAt K mg "_law_ends" s_law_ends
  d_law_is_kind : Us.DefAt K mg "_law_is_kind" s_law_is_kind
  d_law_great : Us.DefAt K mg "_law_great" s_law_great
  d_law_bent : Us.DefAt K mg "_law_bent" s_law_bent
  d_law_told : Us.DefAt K mg "_law_told" s_law_told
  d_law : Us.DefAt K mg "law" s_law
  g_CountsError : mg "CountsError" = some (.ref (He.ga K "CountsError"))
  g_BadLot : mg "BadLot" = some (.ref (He.ga K "BadLot"))
  g_NoKind : mg "NoKind" = some (.ref (He.ga K "NoKind"))
  g_Lot : mg "Lot" = some (.ref (He.ga K "Lot"))
  f_ValueError : mg "ValueError" = none
  f_isinstance : mg "isinstance" = none
  f_tuple : mg "tuple" = none
  f_sorted : mg "sorted" = none
  f_dict : mg "dict" = none
  f_range : mg "range" = none
  f_int : mg "int" = none
  f_len : mg "len" = none
  f_set : mg "set" = none
  f_abs : mg "abs" = none
  f_list : mg "list" = none
  f_bool : mg "bool" = none
  f_all : mg "all" = none
  f_any : mg "any" = none
  f_super : mg "super" = none
  f_str : mg "str" = none
  c_MOST_LETTERS : Us.GlobV mg "MOST_LETTERS" (.int 60)
  c_MOST_DEEP : Us.GlobV mg "MOST_DEEP" (.int 30)
  c_LAST_LETTER : Us.GlobV mg "LAST_LETTER" (.int 25)
  c_ONCE : Us.GlobV mg "ONCE" (.str "once")
  c_LOAN : Us.GlobV mg "LOAN" (.str "loan")
  c_FREE : Us.GlobV mg "FREE" (.str "free")
  c_MORE : Us.GlobV mg "MORE" (.str "more")
  c_MOST_MAKERS : Us.GlobV mg "MOST_MAKERS" (.int 4)
  c_MOST_MAKER : Us.GlobV mg "MOST_MAKER" (.int 12)
  x_NoKind : Us.ExcOk K mg "NoKind" (He.ga K "NoKind")
  x_Lot : Cls K (He.ga K "Lot")
  mk_Lot : Mk K (He.ga K "Lot") (He.ma K (He.ga K "Lot") "__init__")
  me_keep : Meth K (He.ga K "Lot") "keep" (He.ma K (He.ga K "Lot") "keep")
  na_word : NoAttr K (He.ga K "Lot") "word"
  na_makers : NoAttr K (He.ga K "Lot") "makers"
  na_leasts : NoAttr K (He.ga K "Lot") "leasts"
  exm : PySem.W.exmOne K (.ref (He.ga K "NoKind")) (.ref (He.ga K "CountsError")) = some true
  ow_Lot : Us.OwnC K (He.ga K "Lot")
  k_NN : PySem.W.kitOne K (.ref (He.ga K "NoKind")) (.ref (He.ga K "NoKind")) = some true
  k_NV : PySem.W.kitOne K (.ref (He.ga K "NoKind")) (.type "ValueError") = some true
  c_NoKind : ExcC K (He.ga K "NoKind")
theorem txt_mk {K : PySem.W.Frag} {h : Heap} {mg : Str → Option Value} (X : K.In h) (G : h.Ns mainGlobals mg) (c : He.SaysD fa fn K) (ce : ex K = true) : Txt K mg :=
  ⟨let ⟨fd, F⟩ := c.def_ 0 (d := d_is_integer) rfl; ⟨_, fd, F, He.glo_ok X G (c.fact 0 (f := .glo "is_integer") rfl)⟩,
   let ⟨fd, F⟩ := c.def_ 1 (d := d_is_within) rfl; ⟨_, fd, F, He.glo_ok X G (c.fact 1 (f := .glo "is_within") rfl)⟩,
   let ⟨fd, F⟩ := c.def_ 2 (d := d_is_pair) rfl; ⟨_, fd, F, He.glo_ok X G (c.fact 2 (f := .glo "is_pair") rfl)⟩,
   let ⟨fd, F⟩ := c.def_ 3 (d := d_is_kind_there) rfl; ⟨_, fd, F, He.glo_ok X G (c.fact 3 (f := .glo "is_kind_there") rfl)⟩,
   let ⟨fd, F⟩ := c.def_ 4 (d := d_is_kind) rfl; ⟨_, fd, F, He.glo_ok X G (c.fact 4 (f := .glo "is_kind") rfl)⟩,
   let ⟨fd, F⟩ := c.def_ 5 (d := d_is_kind_of_any_size) rfl; ⟨_, fd, F, He.glo_ok X G (c.fact 5 (f := .glo "is_kind_of_any_size") rfl)⟩,
   let ⟨fd, F⟩ := c.def_ 6 (d := d_check_kind) rfl; ⟨_, fd, F, He.glo_ok X G (c.fact 6 (f := .glo "check_kind") rfl)⟩,
   let ⟨fd, F⟩ := c.def_ 7 (d := d_lefts_of) rfl; ⟨_, fd, F, He.glo_ok X G (c.fact 7 (f := .glo "lefts_of") rfl)⟩,
   let ⟨fd, F⟩ := c.def_ 8 (d := d_end_of) rfl; ⟨_, fd, F, He.glo_ok X G (c.fact 8 (f := .glo "end_of") rfl)⟩,
   let ⟨fd, F⟩ := c.def_ 9 (d := d_built_of) rfl; ⟨_, fd, F, He.glo_ok X G (c.fact 9 (f := .glo "built_of") rfl)⟩,
   let ⟨fd, F⟩ := c.def_ 10 (d := d_lefts) rfl; ⟨_, fd, F, He.glo_ok X G (c.fact 10 (f := .glo "lefts") rfl)⟩,
   let ⟨fd, F⟩ := c.def_ 11 (d := d_end) rfl; ⟨_, fd, F, He.glo_ok X G (c.fact 11 (f := .glo "end") rfl)⟩,
   let ⟨fd, F⟩ := c.def_ 12 (d := d_built) rfl; ⟨_, fd, F, He.glo_ok X G (c.fact 12 (f := .glo "built") rfl)⟩,
   let ⟨fd, F⟩ := c.def_ 13 (d := d_leasts_of) rfl; ⟨_, fd, F, He.glo_ok X G (c.fact 13 (f := .glo "leasts_of") rfl)⟩,
   let ⟨fd, F⟩ := c.def_ 14 (d := d_is_sum) rfl; ⟨_, fd, F, He.glo_ok X G (c.fact 14 (f := .glo "is_sum") rfl)⟩,
   let ⟨fd, F⟩ := c.def_ 15 (d := d_needed_makers) rfl; ⟨_, fd, F, He.glo_ok X G (c.fact 15 (f := .glo "needed_makers") rfl)⟩,
   let ⟨fd, F⟩ := c.def_ 16 (d := d_are_makers) rfl; ⟨_, fd, F, He.glo_ok X G (c.fact 16 (f := .glo "are_makers") rfl)⟩,
   c.def_ 17 (d := d_Lot__init) rfl,
   c.def_ 18 (d := d_Lot_keep) rfl,
   c.def_ 19 (d := d_Lot__eq) rfl,
   let ⟨fd, F⟩ := c.def_ 20 (d := d_law_hand) rfl; ⟨_, fd, F, He.glo_ok X G (c.fact 17 (f := .glo "_law_hand") rfl)⟩,
   let ⟨fd, F⟩ := c.def_ 21 (d := d_law_draw) rfl; ⟨_, fd, F, He.glo_ok X G (c.fact 18 (f := .glo "_law_draw") rfl)⟩,
   let ⟨fd, F⟩ := c.def_ 22 (d := d_law_some) rfl; ⟨_, fd, F, He.glo_ok X G (c.fact 19 (f := .glo "_law_some") rfl)⟩,
   let ⟨fd, F⟩ := c.def_ 23 (d := d_law_is) rfl; ⟨_, fd, F, He.glo_ok X G (c.fact 20 (f := .glo "_law_is") rfl)⟩,
   let ⟨fd, F⟩ := c.def_ 24 (d := d_law_deep) rfl; ⟨_, fd, F, He.glo_ok X G (c.fact 21 (f := .glo "_law_deep") rfl)⟩,
   let ⟨fd, F⟩ := c.def_ 25 (d := d_law_flag) rfl; ⟨_, fd, F, He.glo_ok X G (c.fact 22 (f := .glo "_law_flag") rfl)⟩,
   let ⟨fd, F⟩ := c.def_ 26 (d := d_law_kind) rfl; ⟨_, fd, F, He.glo_ok X G (c.fact 23 (f := .glo "_law_kind") rfl)⟩,
   let ⟨fd, F⟩ := c.def_ 27 (d := d_law_ends) rfl; ⟨_, fd, F, He.glo_ok X G (c.fact 24 (f := .glo "_law_ends") rfl)⟩,
   let ⟨fd, F⟩ := c.def_ 28 (d := d_law_is_kind) rfl; ⟨_, fd, F, He.glo_ok X G (c.fact 25 (f := .glo "_law_is_kind") rfl)⟩,
   let ⟨fd, F⟩ := c.def_ 29 (d := d_law_great) rfl; ⟨_, fd, F, He.glo_ok X G (c.fact 26 (f := .glo "_law_great") rfl)⟩,
   let ⟨fd, F⟩ := c.def_ 30 (d := d_law_bent) rfl; ⟨_, fd, F, He.glo_ok X G (c.fact 27 (f := .glo "_law_bent") rfl)⟩,
   let ⟨fd, F⟩ := c.def_ 31 (d := d_law_told) rfl; ⟨_, fd, F, He.glo_ok X G (c.fact 28 (f := .glo "_law_told") rfl)⟩,
   let ⟨fd, F⟩ := c.def_ 32 (d := d_law) rfl; ⟨_, fd, F, He.glo_ok X G (c.fact 29 (f := .glo "law") rfl)⟩,
   He.glo_ok X G (c.fact 30 (f := .glo "CountsError") rfl),
   He.glo_ok X G (c.fact 31 (f := .glo "BadLot") rfl),
   He.glo_ok X G (c.fact 32 (f := .glo "NoKind") rfl),
   He.glo_ok X G (c.fact 33 (f := .glo "Lot") rfl),
   He.free_ok X G (c.fact 34 (f := .free "ValueError") rfl),
   He.free_ok X G (c.fact 35 (f := .free "isinstance") rfl),
   He.free_ok X G (c.fact 36 (f := .free "tuple") rfl),
   He.free_ok X G (c.fact 37 (f := .free "sorted") rfl),
   He.free_ok X G (c.fact 38 (f := .free "dict") rfl),
   He.free_ok X G (c.fact 39 (f := .free "range") rfl),
   He.free_ok X G (c.fact 40 (f := .free "int") rfl),
   He.free_ok X G (c.fact 41 (f := .free "len") rfl),
   He.free_ok X G (c.fact 42 (f := .free "set") rfl),
   He.free_ok X G (c.fact 43 (f := .free "abs") rfl),
   He.free_ok X G (c.fact 44 (f := .free "list") rfl),
   He.free_ok X G (c.fact 45 (f := .free "bool") rfl),
   He.free_ok X G (c.fact 46 (f := .free "all") rfl),
   He.free_ok X G (c.fact 47 (f := .free "any") rfl),
   He.free_ok X G (c.fact 48 (f := .free "super") rfl),
   He.free_ok X G (c.fact 49 (f := .free "str") rfl),
   let ⟨t, e⟩ := He.int_ok X G (c.fact 50 (f := .int "MOST_LETTERS" 60) rfl); ⟨_, e, t, rfl⟩,
   let ⟨t, e⟩ := He.int_ok X G (c.fact 51 (f := .int "MOST_DEEP" 30) rfl); ⟨_, e, t, rfl⟩,
   let ⟨t, e⟩ := He.int_ok X G (c.fact 52 (f := .int "LAST_LETTER" 25) rfl); ⟨_, e, t, rfl⟩,
   let ⟨t, e⟩ := He.str_ok X G (c.fact 53 (f := .str "ONCE" "once") rfl); ⟨_, e, t, rfl⟩,
   let ⟨t, e⟩ := He.str_ok X G (c.fact 54 (f := .str "LOAN" "loan") rfl); ⟨_, e, t, rfl⟩,
   let ⟨t, e⟩ := He.str_ok X G (c.fact 55 (f := .str "FREE" "free") rfl); ⟨_, e, t, rfl⟩,
   let ⟨t, e⟩ := He.str_ok X G (c.fact 56 (f := .str "MORE" "more") rfl); ⟨_, e, t, rfl⟩,
   let ⟨t, e⟩ := He.int_ok X G (c.fact 57 (f := .int "MOST_MAKERS" 4) rfl); ⟨_, e, t, rfl⟩,
   let ⟨t, e⟩ := He.int_ok X G (c.fact 58 (f := .int "MOST_MAKER" 12) rfl); ⟨_, e, t, rfl⟩,
   let ⟨a, b, c1, d⟩ := He.exc_ok (c.fact 65 (f := .exc "NoKind") rfl); ⟨He.glo_ok X G (c.fact 32 (f := .glo "NoKind") rfl), a, b, c1, d⟩,
   He.cls_ok (c.fact 59 (f := .cls "Lot") rfl),
   He.mkr_ok (c.fact 60 (f := .mkr "Lot") rfl),
   He.meth_ok (c.fact 61 (f := .meth "Lot" "keep") rfl),
   He.noat_ok (c.fact 62 (f := .noat "Lot" "word") rfl),
   He.noat_ok (c.fact 63 (f := .noat "Lot" "makers") rfl),
   He.noat_ok (c.fact 64 (f := .noat "Lot" "leasts") rfl),
   He.exm_ok (c.fact 66 (f := .exm "NoKind" "CountsError" true) rfl),
   Us.ownC_of (He.cls_ok (c.fact 59 (f := .cls "Lot") rfl)) (He.ba ce).1,
   of_decide_eq_true (He.ba (He.ba ce).2).1,
   of_decide_eq_true (He.ba (He.ba (He.ba ce).2).2).1,
   Us.excC_of (He.ba (He.ba (He.ba ce).2).2).2⟩
end K06
set_option maxRecDepth 100000
set_option maxHeartbeats 2000000
namespace K06
open PySem PySem.Spec PyProof.Rows L2 Us
/-! ### promises -/
def isI : V → Bool
  | .int _ => true
  | _ => false
def inB (a b : Int) : V → Bool
  | .int i => decide (a ≤ i) && decide (i ≤ b)
  | _ => false
def isPr (B : Hp) (v : V) : Bool := match v with
  | .ref p => (match B p with
    | some (.tup us) => us.length == 2
    | _ => false)
  | _ => false
def spIsInt (K : PySem.W.Frag) : Sp := fun vs H Q _ => ∃ B v, vs = [v] ∧ Same B H ∧ Sh K B v ∧ Q (.bl (isI v)) H
def spIsWithin (K : PySem.W.Frag) : Sp := fun vs H Q _ => ∃ B v a b, vs = [v, .int a, .int b] ∧ Same B H ∧ Sh K B v ∧ Q (.bl (inB a b v)) H
def spIsPair (K : PySem.W.Frag) : Sp := fun vs H Q _ => ∃ B v, vs = [v] ∧ Same B H ∧ Sh K B v ∧ Q (.bl (isPr B v)) H
theorem isI_eq {K : PySem.W.Frag} {B : Hp} {v : V} (sh : Sh K B v) : isI v = (shB B v "int" && !shB B v "bool") := by
  cases sh with
  | non => rfl
  | bl b => rfl
  | int i => rfl
  | str s => rfl
  | tup h => rw [shB_tup h]; rfl
  | lst h => rw [shB_lst h]; rfl
  | dct h => rw [shB_dct h]; rfl
  | ins h c => rw [shB_ins h]; rfl
theorem isPr_tup {B : Hp} {p : Addr} {us : List V} (h : B p = some (.tup us)) : isPr B (.ref p) = (us.length == 2) := by unfold isPr; dsimp only; rw [h]
theorem shT_of {K : PySem.W.Frag} {B : Hp} {v : V} (sh : Sh K B v) (h : shB B v "tuple" = true) : ∃ p us, v = .ref p ∧ B p = some (.tup us) := by
  cases sh with
  | tup h' => exact ⟨_, _, rfl, h'⟩
  | lst h' => rw [shB_lst h'] at h; cases h
  | dct h' => rw [shB_dct h'] at h; cases h
  | ins h' c => rw [shB_ins h'] at h; cases h
  | _ => cases h
theorem isPr_no {B : Hp} {v : V} (h : shB B v "tuple" = false) : isPr B v = false := by
  unfold isPr
  split
  · rename_i p
    split
    · rename_i us e
      rw [shB_tup e] at h; cases h
    · rfl
  · rfl
section
variable {P : Program} {w : World} {K : PySem.W.Frag} {mg : Str → Option Value} {base : Heap}
theorem ok_is_integer (T : Txt K mg) : DefOk P w K mg base CX0 1 "is_integer" p_is_integer (spIsInt K) := by
  refine T.d_is_integer.ok sc_is_integer (fun _ _ _ _ _ _ us hl => match us, hl with | [_], _ => rfl) (fun vs H Q E h => ?_) (fun f cdv A outer s H vs Q E hr h => ?_)
  · obtain ⟨B, v, rfl, _⟩ := h
    rfl
  · obtain ⟨B, v, rfl, hS, sh, k⟩ := h
    refine ⟨_, PSs.nox (pss_one (ps_ret (pe_and (pe_callB call_isi (by rfl) T.f_isinstance (by decide +kernel) (pa_cons (pv 0) (pa_cons (pe_bltn (v := .ty "int") (by rfl) T.f_int (by decide +kernel) rfl) pa_nil))) (pe_one (pe_not (pe_callB call_isi (by rfl) T.f_isinstance (by decide +kernel) (pa_cons (pv 0) (pa_cons (pe_bltn (v := .ty "bool") (by rfl) T.f_bool (by decide +kernel) rfl) pa_nil)))))))), ?_⟩
    rw [isI_eq sh] at k
    walk_at "go"
    refine i_case (fun h1 => ?_) (fun h1 => ?_)
    · walk_at "go"
      rw [h1] at k
      exact k
    · rw [h1] at k
      exact k
theorem ok_is_within (T : Txt K mg) (Dis_integer : DefOk P w K mg base CX0 1 "is_integer" p_is_integer (spIsInt K)) : DefOk P w K mg base CX0 2 "is_within" p_is_within (spIsWithin K) := by
  refine T.d_is_within.ok sc_is_within (fun _ _ _ _ _ _ us hl => match us, hl with | [_, _, _], _ => rfl) (fun vs H Q E h => ?_) (fun f cdv A outer s H vs Q E hr h => ?_)
  · obtain ⟨B, v, a, b, rfl, _⟩ := h
    rfl
  · obtain ⟨B, v, a, b, rfl, hS, sh, k⟩ := h
    refine ⟨_, PSs.nox (pss_one (ps_ret (pe_and (pe_callD Dis_integer (hr.mono (by first | decide | omega)) rfl pass0 (pa_cons (pv 0) pa_nil)) (pe_one (pe_chain op_le op_le (pv 1) (pv 0) (pv 2)))))), ?_⟩
    walk_at "go"
    refine ⟨B, v, rfl, hS, sh, ?_⟩
    walk_at "go"
    cases v with
    | int i =>
      refine iteT ?_
      walk_at "go"
      refine i_case (fun h1 => ?_) (fun h1 => ?_)
      · walk_at "go"
        have e : inB a b (.int i) = decide (i ≤ b) := by
          show (decide (a ≤ i) && decide (i ≤ b)) = _
          rw [h1, Bool.true_and]
        rw [e] at k
        exact k
      · have e : inB a b (.int i) = false := by
          show (decide (a ≤ i) && decide (i ≤ b)) = _
          rw [h1, Bool.false_and]
        rw [e] at k
        exact k
    | _ => exact iteF k
theorem ok_is_pair (T : Txt K mg) : DefOk P w K mg base CX0 1 "is_pair" p_is_pair (spIsPair K) := by
  refine T.d_is_pair.ok sc_is_pair (fun _ _ _ _ _ _ us hl => match us, hl with | [_], _ => rfl) (fun vs H Q E h => ?_) (fun f cdv A outer s H vs Q E hr h => ?_)
  · obtain ⟨B, v, rfl, _⟩ := h
    rfl
  · obtain ⟨B, v, rfl, hS, sh, k⟩ := h
    refine ⟨_, PSs.nox (pss_one (ps_ret (pe_and (pe_callB call_isi (by rfl) T.f_isinstance (by decide +kernel) (pa_cons (pv 0) (pa_cons (pe_bltn (v := .ty "tuple") (by rfl) T.f_tuple (by decide +kernel) rfl) pa_nil))) (pe_one (pe_cmpR op_eq (pe_callB call_lenU (by rfl) T.f_len (by decide +kernel) (pa_cons (pv 0) pa_nil)) pe_int (nomark _)))))), ?_⟩
    walk_at "go"
    refine i_case (fun h1 => ?_) (fun h1 => ?_)
    · obtain ⟨p, us, rfl, hp⟩ := shT_of sh h1
      rw [isPr_tup hp] at k
      walk_at "go"
      refine i_lenT (SqT.of (hS _ _ hp)) ?_
      walk_at "go"
      rw [dI]
      have e : decide ((us.length : Int) = 2) = (us.length == 2) := by
        by_cases q : us.length = 2
        · rw [q]; rfl
        · rw [decide_eq_false (by omega)]; simp [q]
      rw [e]
      exact k
    · rw [isPr_no h1] at k
      exact k
end

end K06
set_option maxRecDepth 100000
set_option maxHeartbeats 2000000
namespace K06
open PySem PySem.Spec PyProof.Rows L2 Us
/-! ### things, as the looks of kinds see them -/
inductive Dd where
  | pr (a b : Dd) | int (i : Int) | odd
def Dd.good : Dd → Bool
  | .pr a b => a.good && b.good
  | .int i => decide (0 ≤ i) && decide (i ≤ 25)
  | .odd => false
def Dd.dep : Dd → Nat
  | .pr a b => 1 + max a.dep b.dep
  | _ => 0
def Dd.cnt : Dd → Nat
  | .pr a b => a.cnt + b.cnt
  | _ => 1
def Dd.siz : Dd → Nat
  | .pr a b => 1 + a.siz + b.siz
  | _ => 1
theorem Dd.siz_pos (d : Dd) : 1 ≤ d.siz := by cases d <;> simp [Dd.siz] <;> omega
theorem Dd.cnt_pos : ∀ d : Dd, 1 ≤ d.cnt
  | .pr a b => by have := a.cnt_pos; have := b.cnt_pos; simp only [Dd.cnt]; omega
  | .int i => Nat.le_refl _
  | .odd => Nat.le_refl _
def Dd.okK (d : Dd) : Bool := d.good && (decide (d.dep ≤ 30) && decide (d.cnt ≤ 60))
def RepD (K : PySem.W.Frag) (B : Hp) : Dd → V → Prop
  | .pr a b, v => ∃ p x y, v = .ref p ∧ B p = some (.tup [x, y]) ∧ RepD K B a x ∧ RepD K B b y
  | .int i, v => v = .int i
  | .odd, v => Sh K B v ∧ isPr B v = false ∧ isI v = false
section
variable {K : PySem.W.Frag} {B B' : Hp}
theorem RepD.sh : ∀ {d : Dd} {v : V}, RepD K B d v → Sh K B v
  | .pr a b, v, h => by obtain ⟨p, x, y, rfl, hp, _⟩ := h; exact .tup hp
  | .int i, v, h => by cases h; exact .int i
  | .odd, v, h => h.1
theorem isPr_mono {v : V} (s : Same B B') (sh : Sh K B v) : isPr B' v = isPr B v := by
  cases sh with
  | tup h => rw [isPr_tup h, isPr_tup (s _ _ h)]
  | lst h => rw [isPr_no (by rw [shB_lst (s _ _ h)]; rfl), isPr_no (by rw [shB_lst h]; rfl)]
  | dct h => rw [isPr_no (by rw [shB_dct (s _ _ h)]; rfl), isPr_no (by rw [shB_dct h]; rfl)]
  | ins h c => rw [isPr_no (by rw [shB_ins (s _ _ h)]), isPr_no (by rw [shB_ins h])]
  | _ => rfl
theorem RepD.mono (s : Same B B') : ∀ {d : Dd} {v : V}, RepD K B d v → RepD K B' d v
  | .pr a b, v, h => by obtain ⟨p, x, y, rfl, hp, ha, hb⟩ := h; exact ⟨p, x, y, rfl, s _ _ hp, ha.mono s, hb.mono s⟩
  | .int i, v, h => h
  | .odd, v, h => ⟨h.1.mono s, by rw [isPr_mono s h.1]; exact h.2.1, h.2.2⟩
/-- what the two looks say -/
theorem RepD.isPr : ∀ {d : Dd} {v : V}, RepD K B d v → isPr B v = (match d with | .pr _ _ => true | _ => false)
  | .pr a b, v, h => by obtain ⟨p, x, y, rfl, hp, _⟩ := h; rw [isPr_tup hp]; rfl
  | .int i, v, h => by cases h; rfl
  | .odd, v, h => h.2.1
theorem RepD.inB {a b : Int} : ∀ {d : Dd} {v : V}, RepD K B d v → inB a b v = (match d with | .int i => decide (a ≤ i) && decide (i ≤ b) | _ => false)
  | .pr _ _, v, h => by obtain ⟨p, x, y, rfl, hp, _⟩ := h; rfl
  | .int i, v, h => by cases h; rfl
  | .odd, v, h => by
    obtain ⟨_, _, h3⟩ := h
    cases v <;> first | rfl | cases h3
/-- the pile of is_kind_there, the last one first: tuples of a thing and how deep it stands -/
def RepS (K : PySem.W.Frag) (B : Hp) : List V → List (Dd × Nat) → Prop
  | [], [] => True
  | z :: zs, p :: ss => (∃ q v, z = .ref q ∧ B q = some (.tup [v, .int (p.2 : Int)]) ∧ RepD K B p.1 v) ∧ RepS K B zs ss
  | _, _ => False
theorem RepS.mono (s : Same B B') : ∀ {zs : List V} {ss : List (Dd × Nat)}, RepS K B zs ss → RepS K B' zs ss
  | [], [], h => h
  | z :: zs, p :: ss, h => by obtain ⟨⟨q, v, e, hq, hd⟩, r⟩ := h; exact ⟨⟨q, v, e, s _ _ hq, hd.mono s⟩, r.mono s⟩
  | [], _ :: _, h => h.elim
  | _ :: _, [], h => h.elim
theorem RepS.len : ∀ {zs : List V} {ss : List (Dd × Nat)}, RepS K B zs ss → zs.length = ss.length
  | [], [], h => rfl
  | z :: zs, p :: ss, h => congrArg Nat.succ h.2.len
  | [], _ :: _, h => h.elim
  | _ :: _, [], h => h.elim
end
def sizS (ss : List (Dd × Nat)) : Nat := (ss.map fun p => p.1.siz).sum
def cntS (ss : List (Dd × Nat)) : Nat := (ss.map fun p => p.1.cnt).sum
theorem len_siz : ∀ ss : List (Dd × Nat), ss.length ≤ sizS ss
  | [] => Nat.le_refl _
  | p :: ss => by
    have := len_siz ss
    have := p.1.siz_pos
    simp only [sizS, List.map_cons, List.sum_cons, List.length_cons] at *
    omega
/-- what is still due of the pile, so many letters seen -/
def OkS (ss : List (Dd × Nat)) (n : Nat) : Prop := (∀ p ∈ ss, p.1.good = true ∧ p.2 + p.1.dep ≤ 30) ∧ n + cntS ss ≤ 60
theorem OkS_one (d : Dd) : OkS [(d, 0)] 0 ↔ d.okK = true := by
  unfold OkS Dd.okK cntS
  simp
  constructor
  · rintro ⟨⟨a, b⟩, c⟩; exact ⟨a, b, c⟩
  · rintro ⟨a, b, c⟩; exact ⟨⟨a, b⟩, c⟩
theorem OkS_pr (a b : Dd) (k n : Nat) (ss : List (Dd × Nat)) : OkS ((a, k + 1) :: (b, k + 1) :: ss) n ↔ OkS ((Dd.pr a b, k) :: ss) n := by
  unfold OkS cntS
  simp only [List.mem_cons, forall_eq_or_imp, List.map_cons, List.sum_cons, Dd.good, Dd.dep, Dd.cnt, Bool.and_eq_true]
  constructor
  · rintro ⟨⟨⟨h1, h2⟩, ⟨h3, h4⟩, h5⟩, h6⟩
    exact ⟨⟨⟨⟨h1, h3⟩, by omega⟩, h5⟩, by omega⟩
  · rintro ⟨⟨⟨⟨h1, h3⟩, h2⟩, h5⟩, h6⟩
    exact ⟨⟨⟨h1, by omega⟩, ⟨h3, by omega⟩, h5⟩, by omega⟩
theorem OkS_deep (a b : Dd) (k n : Nat) (ss : List (Dd × Nat)) (h : ¬ k < 30) : ¬ OkS ((Dd.pr a b, k) :: ss) n := by
  rintro ⟨h1, _⟩
  have := (h1 _ List.mem_cons_self).2
  simp only [Dd.dep] at this
  omega
theorem OkS_int (i : Int) (k n : Nat) (ss : List (Dd × Nat)) (hk : k ≤ 30) (h0 : 0 ≤ i) (h1 : i ≤ 25) : OkS ((Dd.int i, k) :: ss) n ↔ OkS ss (n + 1) := by
  unfold OkS cntS
  simp only [List.mem_cons, forall_eq_or_imp, List.map_cons, List.sum_cons, Dd.good, Dd.dep, Dd.cnt]
  constructor
  · rintro ⟨⟨_, h5⟩, h6⟩
    exact ⟨h5, by omega⟩
  · rintro ⟨h5, h6⟩
    exact ⟨⟨⟨by simp [h0, h1], by omega⟩, h5⟩, by omega⟩
theorem OkS_leaf {d : Dd} (k n : Nat) (ss : List (Dd × Nat)) (h : d.good = false) : ¬ OkS ((d, k) :: ss) n := by
  rintro ⟨h1, _⟩
  have := (h1 _ List.mem_cons_self).1
  rw [h] at this
  cases this
theorem OkS_many (d : Dd) (k n : Nat) (ss : List (Dd × Nat)) (h : ¬ n < 60) : ¬ OkS ((d, k) :: ss) n := by
  rintro ⟨_, h2⟩
  have := d.cnt_pos
  simp only [cntS, List.map_cons, List.sum_cons] at h2
  omega
def spIsKind (K : PySem.W.Frag) : Sp := fun vs H Q _ => ∃ B v d, vs = [v] ∧ Same B H ∧ RepD K B d v ∧ d.siz ≤ 100000 ∧ ∀ B' H', Gr [] B H B' H' → Q (.bl d.okK) H'
section
variable {P : Program} {w : World} {K : PySem.W.Frag} {mg : Str → Option Value} {base : Heap}
theorem ok_is_kind_there (T : Txt K mg) (Dis_pair : DefOk P w K mg base CX0 1 "is_pair" p_is_pair (spIsPair K)) (Dis_within : DefOk P w K mg base CX0 2 "is_within" p_is_within (spIsWithin K)) :
    DefOk P w K mg base CX0 3 "is_kind_there" p_is_kind_there (spIsKind K) := by
  refine T.d_is_kind_there.ok sc_is_kind_there (fun _ _ _ _ _ _ us hl => match us, hl with | [_], _ => rfl) (fun vs H Q E h => ?_) (fun f cdv A outer s H vs Q E hr h => ?_)
  · obtain ⟨B, v, d, rfl, _⟩ := h
    rfl
  · obtain ⟨B, v, d, rfl, hS, rd, hz, k⟩ := h
    refine ⟨_, PSs.nox (pss_cons (ps_set (i := 1) sc_is_kind_there.nd rfl (Or.inl rfl) (pe_lst (pa_cons (pe_tup (pa_cons (pv 0) (pa_cons pe_int pa_nil))) pa_nil)))
    (pss_cons (ps_set (i := 2) sc_is_kind_there.nd rfl (Or.inl rfl) pe_int)
    (pss_cons (ps_while PassesOwn.never (pt_cmpR op_gt (pe_callB call_lenU (by rfl) T.f_len (by decide +kernel) (pa_cons (pv 1) pa_nil)) pe_int (nomark _))
      (pss_cons (ps_asg (pe_bm0 PySem.F.plainAttrs_list PySem.F.slot_list_pop PySem.F.type_list_pop mt_pop (pv 1)) (pg_tup (by rfl) (pgs_cons (pg_name (i := 3) sc_is_kind_there.nd rfl (Or.inl rfl)) (pgs_cons (pg_name (i := 4) sc_is_kind_there.nd rfl (Or.inl rfl)) pgs_nil))))
      (pss_one (ps_if (PW.pt (pw_and (pt_val (pe_callD Dis_pair (hr.mono (by first | decide | omega)) rfl pass0 (pa_cons (pv 3) pa_nil))) (pw_and1 (pt_cmpR op_lt (pv 4) (pe_globD T.c_MOST_DEEP) (nomark _)))))
        (pss_cons (ps_expr (pe_bm PySem.F.plainAttrs_list PySem.F.slot_list_append PySem.F.type_list_append mt_append (pv 1) (pa_cons (pe_tup (pa_cons (pe_ix ix_tup (pv 3) pe_int (fun _ _ => rfl)) (pa_cons (pe_op op_add (pv 4) pe_int) pa_nil))) pa_nil)))
        (pss_one (ps_expr (pe_bm PySem.F.plainAttrs_list PySem.F.slot_list_append PySem.F.type_list_append mt_append (pv 1) (pa_cons (pe_tup (pa_cons (pe_ix ix_tup (pv 3) pe_int (fun _ _ => rfl)) (pa_cons (pe_op op_add (pv 4) pe_int) pa_nil))) pa_nil)))))
        (pss_one (ps_if (PW.pt (pw_and (pt_val (pe_callD Dis_within (hr.mono (by first | decide | omega)) rfl pass0 (pa_cons (pv 3) (pa_cons pe_int (pa_cons (pe_globD T.c_LAST_LETTER) pa_nil))))) (pw_and1 (pt_cmpR op_lt (pv 2) (pe_globD T.c_MOST_LETTERS) (nomark _)))))
          (pss_one (ps_aug (i := 2) sc_is_kind_there.nd rfl (.inl rfl) pe_int ip_add))
          (pss_one (ps_ret pe_bl))))))))
    (pss_one (ps_ret pe_bl))))), ?_⟩
    walk_at "go"
    refine ⟨sz5 (by simp), fun q hq => ?_⟩
    walk_at "go"
    refine ⟨sz5 (by simp), fun l hl => ?_⟩
    walk_at "go"
    have g1 : Gr [] B H (upd B q (.tup [v, .int 0])) (upd H q (.tup [v, .int 0])) := Gr.new hS hq
    have hl0 : H l = none := g1.fresh hl
    have g2 := g1.trans (Gr.cell (o := .lst [.ref q]) g1.bh hl)
    refine i_while (fun m σ H' => ∃ (B' : Hp) (zs : List V) (ss : List (Dd × Nat)) (n : Nat) (v1 v2 : Option V), m = sizS ss ∧ σ = [some v, some (.ref l), some (.int (n : Int)), v1, v2] ∧ Gr [] B H B' H' ∧ B' l = none ∧
      H' l = some (.lst zs.reverse) ∧ RepS K B' zs ss ∧ (OkS ss n ↔ d.okK = true) ∧ n ≤ 60 ∧ (∀ p ∈ ss, p.2 ≤ 30) ∧ sizS ss ≤ d.siz) (sizS [(d, 0)])
      ⟨_, [.ref q], [(d, 0)], 0, none, none, rfl, rfl, g2, bfresh g1.bh hl, upd_same, ⟨⟨q, v, rfl, upd_same, rd.mono g1.bb⟩, True.intro⟩, OkS_one d, by decide, fun p hp => by rw [List.mem_singleton.mp hp]; exact Nat.zero_le _, by simp [sizS]⟩ ?_
    rintro m σ H' ⟨B', zs, ss, n, v1, v2, rfl, rfl, g, bl, hL, rs, ok, hn, hk, hz'⟩
    walk_at "go"
    refine i_lenL (SqL.of hL) ?_
    walk_at "go"
    refine i_case (fun c1 => ?_) (fun c1 => ?_)
    · cases zs with
      | nil => simp at c1
      | cons z zs =>
        cases ss with
        | nil => exact rs.elim
        | cons p ss =>
          obtain ⟨⟨q1, v', rfl, hq1, hd⟩, rs⟩ := rs
          obtain ⟨d', kk⟩ := p
          refine i_turn ?_
          walk_at "go"
          refine i_pop hL (rev_last _ _) ?_
          rw [rev_drop]
          walk_at "go"
          have g3 := g.setN (o := .lst zs.reverse) hl0 bl
          have zl := rs.len
          have zz := len_siz ss
          have zd := d'.siz_pos
          have zc : sizS ((d', kk) :: ss) = d'.siz + sizS ss := by simp [sizS]
          have hkk : kk ≤ 30 := hk (d', kk) List.mem_cons_self
          have hks : ∀ p ∈ ss, p.2 ≤ 30 := fun p hp => hk p (List.mem_cons_of_mem _ hp)
          have zr : zs.reverse.length ≤ 100000 := by rw [List.length_reverse]; omega
          refine i_gtup (SqT.of (g3.bh _ _ hq1)) rfl ?_
          walk_at "go"
          refine ⟨B', v', rfl, g3.bh, hd.sh, ?_⟩
          rw [hd.isPr]
          cases d' with
          | pr a b =>
            obtain ⟨q2, x, y, rfl, hq2, hx, hy⟩ := hd
            walk_at "go"
            refine i_case (fun c2 => ?_) (fun c2 => ?_)
            · have hk30 : kk < 30 := by have := of_decide_eq_true c2; omega
              walk_at "go"
              refine ⟨tyL upd_same, ?_⟩
              walk_at "go"
              refine i_ixT (SqT.of (g3.bh _ _ hq2)) atI1 ?_
              walk_at "go"
              refine ⟨sz5 (by simp), fun q3 hq3 => ?_⟩
              have nl3 : l ≠ q3 := ne_of_none upd_same hq3
              have g4 := g3.trans (Gr.new (o := .tup [y, .int ((kk : Int) + 1)]) g3.bh hq3)
              have b4 : upd B' q3 (.tup [y, .int ((kk : Int) + 1)]) l = none := (upd_ne nl3).trans bl
              walk_at "go"
              refine i_app ((upd_ne nl3).trans upd_same) (sz5' (by omega)) ?_
              have g5 := g4.setN (o := .lst (zs.reverse ++ [.ref q3])) hl0 b4
              walk_at "go"
              refine ⟨tyL upd_same, ?_⟩
              walk_at "go"
              refine i_ixT (SqT.of (g5.bh _ _ ((upd_ne (ne_of_none hq2 (bfresh g3.bh hq3))).trans hq2))) atI0 ?_
              walk_at "go"
              refine ⟨sz5 (by simp), fun q4 hq4 => ?_⟩
              have nl4 : l ≠ q4 := ne_of_none upd_same hq4
              have g6 := g5.trans (Gr.new (o := .tup [x, .int ((kk : Int) + 1)]) g5.bh hq4)
              have b6 : upd (upd B' q3 (.tup [y, .int ((kk : Int) + 1)])) q4 (.tup [x, .int ((kk : Int) + 1)]) l = none := (upd_ne nl4).trans b4
              walk_at "go"
              refine i_app ((upd_ne nl4).trans upd_same) (sz5' (by rw [List.length_append]; simp; omega)) ?_
              have g7 := g6.setN (o := .lst (zs.reverse ++ [.ref q3] ++ [.ref q4])) hl0 b6
              have s3 : Same B' (upd B' q3 (.tup [y, .int ((kk : Int) + 1)])) := Same.new (bfresh g3.bh hq3)
              have n4 : upd B' q3 (.tup [y, .int ((kk : Int) + 1)]) q4 = none := bfresh g5.bh hq4
              have s4 := Same.new (o := .tup [x, .int ((kk : Int) + 1)]) n4
              have s34 := s3.trans s4
              refine ⟨sizS ((a, kk + 1) :: (b, kk + 1) :: ss), ?_, _, .ref q4 :: .ref q3 :: zs, (a, kk + 1) :: (b, kk + 1) :: ss, n, _, _, rfl, rfl, g7, b6, ?_, ⟨⟨q4, x, rfl, upd_same, hx.mono s34⟩, ⟨q3, y, rfl, s4 _ _ upd_same, hy.mono s34⟩, rs.mono s34⟩, (OkS_pr a b kk n ss).trans ok, hn, ?_, ?_⟩
              · simp only [sizS, List.map_cons, List.sum_cons, Dd.siz]; omega
              · rw [upd_same, List.reverse_cons, List.reverse_cons]
              · intro p hp
                rcases List.mem_cons.mp hp with rfl | hp
                · exact hk30
                · rcases List.mem_cons.mp hp with rfl | hp
                  · exact hk30
                  · exact hks p hp
              · simp only [sizS, List.map_cons, List.sum_cons, Dd.siz] at *; omega
            · have hk30 : ¬ kk < 30 := by intro z; have := of_decide_eq_false c2; omega
              have no := OkS_deep a b kk n ss hk30
              have kf : d.okK = false := by
                cases e : d.okK with
                | false => rfl
                | true => exact absurd (ok.mpr e) no
              walk_at "go"
              refine ⟨B', _, 0, 25, rfl, g3.bh, .tup hq2, ?_⟩
              walk_at "go"
              refine iteF ?_
              walk_at "go"
              rw [← kf]
              exact k _ _ g3
          | int i =>
            walk_at "go"
            refine ⟨B', v', 0, 25, rfl, g3.bh, hd.sh, ?_⟩
            walk_at "go"
            rw [hd.inB]
            refine i_case (fun c2 => ?_) (fun c2 => ?_)
            · simp only [Bool.and_eq_true, decide_eq_true_eq] at c2
              walk_at "go"
              refine i_case (fun c3 => ?_) (fun c3 => ?_)
              · have c4 : n < 60 := by have := of_decide_eq_true c3; omega
                walk_at "go"
                refine ⟨n, 1, rfl, rfl, ?_⟩
                refine ⟨sizS ss, by omega, B', zs, ss, n + 1, _, _, rfl, rfl, g3, bl, upd_same, rs, (OkS_int i kk n ss hkk c2.1 c2.2).symm.trans ok, c4, hks, by omega⟩
              · have c4 : ¬ n < 60 := by intro z; have := of_decide_eq_false c3; omega
                have kf : d.okK = false := by
                  cases e : d.okK with
                  | false => rfl
                  | true => exact absurd (ok.mpr e) (OkS_many _ kk n ss c4)
                walk_at "go"
                rw [← kf]
                exact k _ _ g3
            · have kf : d.okK = false := by
                cases e : d.okK with
                | false => rfl
                | true => exact absurd (ok.mpr e) (OkS_leaf kk n ss c2)
              walk_at "go"
              rw [← kf]
              exact k _ _ g3
          | odd =>
            have kf : d.okK = false := by
              cases e : d.okK with
              | false => rfl
              | true => exact absurd (ok.mpr e) (OkS_leaf kk n ss rfl)
            walk_at "go"
            refine ⟨B', v', 0, 25, rfl, g3.bh, hd.sh, ?_⟩
            walk_at "go"
            rw [hd.inB]
            refine iteF ?_
            walk_at "go"
            rw [← kf]
            exact k _ _ g3
    · cases zs with
      | cons z zs => simp at c1
      | nil =>
        cases ss with
        | cons p ss => exact rs.elim
        | nil =>
          have kt : d.okK = true := ok.mp ⟨fun p hp => (nomatch hp), by simp [cntS]; omega⟩
          walk_at "go"
          rw [← kt]
          exact k _ _ g
end

end K06
set_option maxRecDepth 100000
set_option maxHeartbeats 2000000
namespace K06
open PySem PySem.Spec PyProof.Rows L2 Us
def Dd.lefts : Dd → List Dd
  | .pr a b => a :: b.lefts
  | _ => []
def Dd.last : Dd → Dd
  | .pr _ b => b.last
  | d => d
def mkD (ds : List Dd) (e : Dd) : Dd := ds.foldr .pr e
def sizL (ds : List Dd) : Nat := (ds.map Dd.siz).sum
def goodL (ds : List Dd) : Bool := ds.all Dd.good
def RepL (K : PySem.W.Frag) (B : Hp) : List V → List Dd → Prop
  | [], [] => True
  | z :: zs, d :: ds => RepD K B d z ∧ RepL K B zs ds
  | _, _ => False
section
variable {K : PySem.W.Frag} {B B' : Hp}
theorem RepL.mono (s : Same B B') : ∀ {zs : List V} {ss : List Dd}, RepL K B zs ss → RepL K B' zs ss
  | [], [], h => h
  | z :: zs, p :: ss, h => ⟨h.1.mono s, h.2.mono s⟩
  | [], _ :: _, h => h.elim
  | _ :: _, [], h => h.elim
theorem RepL.len : ∀ {zs : List V} {ss : List Dd}, RepL K B zs ss → zs.length = ss.length
  | [], [], h => rfl
  | z :: zs, p :: ss, h => congrArg Nat.succ h.2.len
  | [], _ :: _, h => h.elim
  | _ :: _, [], h => h.elim
theorem RepL.append : ∀ {zs ys : List V} {ss ts : List Dd}, RepL K B zs ss → RepL K B ys ts → RepL K B (zs ++ ys) (ss ++ ts)
  | [], ys, [], ts, _, h => h
  | z :: zs, ys, p :: ss, ts, h, h' => ⟨h.1, h.2.append h'⟩
  | [], _, _ :: _, _, h, _ => h.elim
  | _ :: _, _, [], _, h, _ => h.elim
theorem RepL.reverse : ∀ {zs : List V} {ss : List Dd}, RepL K B zs ss → RepL K B zs.reverse ss.reverse
  | [], [], h => h
  | z :: zs, p :: ss, h => by
    rw [List.reverse_cons, List.reverse_cons]
    exact h.2.reverse.append ⟨h.1, True.intro⟩
  | [], _ :: _, h => h.elim
  | _ :: _, [], h => h.elim
theorem RepL.get : ∀ {zs : List V} {ss : List Dd} {i : Nat} {z : V}, RepL K B zs ss → zs[i]? = some z → ∃ d, ss[i]? = some d ∧ RepD K B d z
  | z :: zs, p :: ss, 0, y, h, e => by cases e; exact ⟨p, rfl, h.1⟩
  | z :: zs, p :: ss, i + 1, y, h, e => by
    obtain ⟨d, e', r⟩ := h.2.get (i := i) (z := y) (by simpa using e)
    exact ⟨d, by simpa using e', r⟩
  | [], [], _, _, _, e => by simp at e
  | [], _ :: _, _, _, h, _ => h.elim
  | _ :: _, [], _, _, h, _ => h.elim
end
theorem len_sizL : ∀ ss : List Dd, ss.length ≤ sizL ss
  | [] => Nat.le_refl _
  | p :: ss => by
    have := len_sizL ss
    have := p.siz_pos
    simp only [sizL, List.map_cons, List.sum_cons, List.length_cons] at *
    omega
def spAnySize (K : PySem.W.Frag) : Sp := fun vs H Q _ => ∃ B v d, vs = [v] ∧ Same B H ∧ RepD K B d v ∧ d.siz ≤ 100000 ∧ ∀ B' H', Gr [] B H B' H' → Q (.bl d.good) H'
def spCheck (K : PySem.W.Frag) : Sp := fun vs H Q E => ∃ B v d, vs = [v] ∧ Same B H ∧ RepD K B d v ∧ d.siz ≤ 100000 ∧ ∀ B' H', Gr [] B H B' H' → (d.good = true → Q .non H') ∧ (d.good = false → E (.ref (He.ga K "NoKind")) none H')
def spLeftsOf (K : PySem.W.Frag) : Sp := fun vs H Q _ => ∃ B v d, vs = [v] ∧ Same B H ∧ RepD K B d v ∧ d.siz ≤ 100000 ∧ d.good = true ∧ ∀ B' H' p xs, Gr [] B H B' H' → B' p = some (.tup xs) → RepL K B' xs d.lefts → Q (.ref p) H'
def spEndOf (K : PySem.W.Frag) : Sp := fun vs H Q _ => ∃ B v d, vs = [v] ∧ Same B H ∧ RepD K B d v ∧ d.siz ≤ 100000 ∧ d.good = true ∧ ∀ v', RepD K B d.last v' → Q v' H
def spBuiltOf (K : PySem.W.Frag) : Sp := fun vs H Q _ => ∃ B p v xs ds e, vs = [.ref p, v] ∧ Same B H ∧ B p = some (.tup xs) ∧ RepL K B xs ds ∧ RepD K B e v ∧ ∀ B' H' v', Gr [] B H B' H' → RepD K B' (mkD ds e) v' → Q v' H'
theorem good_last : ∀ {d : Dd}, d.good = true → ∃ i, d.last = .int i ∧ 0 ≤ i ∧ i ≤ 25
  | .pr a b, h => by
    simp only [Dd.good, Bool.and_eq_true] at h
    show ∃ i, b.last = .int i ∧ 0 ≤ i ∧ i ≤ 25
    exact good_last (d := b) h.2
  | .int i, h => by
    simp only [Dd.good, Bool.and_eq_true, decide_eq_true_eq] at h
    exact ⟨i, rfl, h.1, h.2⟩
section
variable {P : Program} {w : World} {K : PySem.W.Frag} {mg : Str → Option Value} {base : Heap}
theorem ok_is_kind (T : Txt K mg) (Dis_kind_there : DefOk P w K mg base CX0 3 "is_kind_there" p_is_kind_there (spIsKind K)) : DefOk P w K mg base CX0 4 "is_kind" p_is_kind (spIsKind K) := by
  refine T.d_is_kind.ok sc_is_kind (fun _ _ _ _ _ _ us hl => match us, hl with | [_], _ => rfl) (fun vs H Q E h => ?_) (fun f cdv A outer s H vs Q E hr h => ?_)
  · obtain ⟨B, v, d, rfl, _⟩ := h
    rfl
  · obtain ⟨B, v, d, rfl, hS, rd, hz, k⟩ := h
    refine ⟨_, PSs.nox (pss_one (ps_ret (pe_callD Dis_kind_there (hr.mono (by first | decide | omega)) rfl pass0 (pa_cons (pv 0) pa_nil)))), ?_⟩
    walk_at "go"
    exact ⟨B, v, d, rfl, hS, rd, hz, k⟩
theorem ok_any (T : Txt K mg) (Dis_pair : DefOk P w K mg base CX0 1 "is_pair" p_is_pair (spIsPair K)) (Dis_within : DefOk P w K mg base CX0 2 "is_within" p_is_within (spIsWithin K)) :
    DefOk P w K mg base CX0 3 "is_kind_of_any_size" p_is_kind_of_any_size (spAnySize K) := by
  refine T.d_is_kind_of_any_size.ok sc_is_kind_of_any_size (fun _ _ _ _ _ _ us hl => match us, hl with | [_], _ => rfl) (fun vs H Q E h => ?_) (fun f cdv A outer s H vs Q E hr h => ?_)
  · obtain ⟨B, v, d, rfl, _⟩ := h
    rfl
  · obtain ⟨B, v, d, rfl, hS, rd, hz, k⟩ := h
    refine ⟨_, PSs.nox (pss_cons (ps_set (i := 1) sc_is_kind_of_any_size.nd rfl (Or.inl rfl) (pe_lst (pa_cons (pv 0) pa_nil)))
    (pss_cons (ps_while PassesOwn.never (pt_cmpR op_gt (pe_callB call_lenU (by rfl) T.f_len (by decide +kernel) (pa_cons (pv 1) pa_nil)) pe_int (nomark _))
      (pss_cons (ps_set (i := 2) sc_is_kind_of_any_size.nd rfl (Or.inl rfl) (pe_bm0 PySem.F.plainAttrs_list PySem.F.slot_list_pop PySem.F.type_list_pop mt_pop (pv 1)))
      (pss_one (ps_if (pt_val (pe_callD Dis_pair (hr.mono (by first | decide | omega)) rfl pass0 (pa_cons (pv 2) pa_nil)))
        (pss_one (ps_expr (pe_bm PySem.F.plainAttrs_list PySem.F.slot_list_extend PySem.F.type_list_extend mt_extendT (pv 1) (pa_cons (pv 2) pa_nil))))
        (pss_one (ps_if (pt_not (pt_val (pe_callD Dis_within (hr.mono (by first | decide | omega)) rfl pass0 (pa_cons (pv 2) (pa_cons pe_int (pa_cons (pe_globD T.c_LAST_LETTER) pa_nil))))))
          (pss_one (ps_ret pe_bl))
          pss_nil))))))
    (pss_one (ps_ret pe_bl)))), ?_⟩
    walk_at "go"
    refine ⟨sz5 (by simp), fun l hl => ?_⟩
    walk_at "go"
    have g1 : Gr [] B H B (upd H l (.lst [v])) := Gr.cell hS hl
    refine i_while (fun m σ H' => ∃ (B' : Hp) (zs : List V) (ss : List Dd) (v1 : Option V), m = sizL ss ∧ σ = [some v, some (.ref l), v1] ∧ Gr [] B H B' H' ∧ B' l = none ∧
      H' l = some (.lst zs.reverse) ∧ RepL K B' zs ss ∧ goodL ss = d.good ∧ sizL ss ≤ d.siz) (sizL [d])
      ⟨_, [v], [d], none, rfl, rfl, g1, bfresh hS hl, upd_same, ⟨rd, True.intro⟩, by simp [goodL], by simp [sizL]⟩ ?_
    rintro m σ H' ⟨B', zs, ss, v1, rfl, rfl, g, bl, hL, rs, ok, hz'⟩
    walk_at "go"
    refine i_lenL (SqL.of hL) ?_
    walk_at "go"
    refine i_case (fun c1 => ?_) (fun c1 => ?_)
    · cases zs with
      | nil => simp at c1
      | cons z zs =>
        cases ss with
        | nil => exact rs.elim
        | cons d' ss =>
          obtain ⟨hd, rs⟩ := rs
          refine i_turn ?_
          walk_at "go"
          refine i_pop hL (rev_last _ _) ?_
          rw [rev_drop]
          have g3 := g.setN (o := .lst zs.reverse) hl bl
          have zl := rs.len
          have zz := len_sizL ss
          have zd := d'.siz_pos
          have zc : sizL (d' :: ss) = d'.siz + sizL ss := by simp [sizL]
          have gc : goodL (d' :: ss) = (d'.good && goodL ss) := by simp [goodL]
          have zr : zs.reverse.length ≤ 100000 := by rw [List.length_reverse]; omega
          walk_at "go"
          refine ⟨B', z, rfl, g3.bh, hd.sh, ?_⟩
          rw [hd.isPr]
          cases d' with
          | pr a b =>
            obtain ⟨q2, x, y, rfl, hq2, hx, hy⟩ := hd
            walk_at "go"
            refine ⟨tyL upd_same, ?_⟩
            walk_at "go"
            refine i_extT upd_same (SqT.of (g3.bh _ _ hq2)) (sz5 (by simp only [List.length_cons, List.length_nil]; omega)) ?_
            have g5 := g3.setN (o := .lst (zs.reverse ++ [x, y])) hl bl
            refine ⟨sizL (b :: a :: ss), ?_, _, y :: x :: zs, b :: a :: ss, _, rfl, rfl, g5, bl, ?_, ⟨hy, hx, rs⟩, ?_, ?_⟩
            · simp only [sizL, List.map_cons, List.sum_cons, Dd.siz]; omega
            · rw [upd_same, List.reverse_cons, List.reverse_cons, List.append_assoc]; rfl
            · rw [← ok]
              simp only [goodL, List.all_cons, Dd.good]
              cases a.good <;> cases b.good <;> rfl
            · simp only [sizL, List.map_cons, List.sum_cons, Dd.siz] at *; omega
          | int i =>
            walk_at "go"
            refine ⟨B', z, 0, 25, rfl, g3.bh, hd.sh, ?_⟩
            walk_at "go"
            rw [hd.inB]
            have e : (Dd.int i).good = (decide (0 ≤ i) && decide (i ≤ 25)) := rfl
            refine i_case (fun c2 => ?_) (fun c2 => ?_)
            · have c3 : (decide (0 ≤ i) && decide (i ≤ 25)) = false := nT c2
              walk_at "go"
              have kf : d.good = false := by rw [← ok, gc, e, c3, Bool.false_and]
              rw [← kf]
              exact k _ _ g3
            · have c3 : (decide (0 ≤ i) && decide (i ≤ 25)) = true := nF c2
              walk_at "go"
              exact ⟨sizL ss, by omega, B', zs, ss, _, rfl, rfl, g3, bl, upd_same, rs, by rw [← ok, gc, e, c3, Bool.true_and], by omega⟩
          | odd =>
            walk_at "go"
            refine ⟨B', z, 0, 25, rfl, g3.bh, hd.sh, ?_⟩
            walk_at "go"
            rw [hd.inB]
            refine iteT ?_
            walk_at "go"
            have kf : d.good = false := by rw [← ok, gc]; rfl
            rw [← kf]
            exact k _ _ g3
    · cases zs with
      | cons z zs => simp at c1
      | nil =>
        cases ss with
        | cons p ss => exact rs.elim
        | nil =>
          have kt : d.good = true := ok.symm.trans rfl
          walk_at "go"
          rw [← kt]
          exact k _ _ g
theorem ok_check (T : Txt K mg) (Dis_kind_of_any_size : DefOk P w K mg base CX0 3 "is_kind_of_any_size" p_is_kind_of_any_size (spAnySize K)) :
    DefOk P w K mg base (L2.CX P w) 4 "check_kind" p_check_kind (spCheck K) := by
  refine T.d_check_kind.ok sc_check_kind (fun _ _ _ _ _ _ us hl => match us, hl with | [_], _ => rfl) (fun vs H Q E h => ?_) (fun f cdv A outer s H vs Q E hr h => ?_)
  · obtain ⟨B, v, d, rfl, _⟩ := h
    rfl
  · obtain ⟨B, v, d, rfl, hS, rd, hz, k⟩ := h
    refine ⟨_, (pss_one (ps_if (pt_not (pt_val (pe_callD Dis_kind_of_any_size (hr.mono (by first | decide | omega)) rfl pass0 (pa_cons (pv 0) pa_nil))))
      (pss_one (ps_raise rfl (takes_of rfl rfl rfl rfl) (pmk_x T.x_NoKind rfl)))
      pss_nil)), ?_⟩
    walk_at "go"
    refine ⟨B, v, d, rfl, hS, rd, hz, fun B' H' g => ?_⟩
    walk_at "go"
    refine i_case (fun c => ?_) (fun c => ?_)
    · exact (k _ _ g).2 (nT c)
    · walk_at "go"
      exact (k _ _ g).1 (nF c)
end

end K06
set_option maxRecDepth 100000
set_option maxHeartbeats 2000000
namespace K06
open PySem PySem.Spec PyProof.Rows L2 Us
theorem tT {B : Hp} {p : Addr} {us : List V} (h : B p = some (.tup us)) : shB B (.ref p) "tuple" = true := by rw [shB_tup h]; decide
theorem tI {B : Hp} {i : Int} : shB B (.int i) "tuple" = false := by show ("tuple" == "int") = false; decide
def spLefts (K : PySem.W.Frag) : Sp := fun vs H Q E => ∃ B v d, vs = [v] ∧ Same B H ∧ RepD K B d v ∧ d.siz ≤ 100000 ∧ ∀ B' H', Gr [] B H B' H' → (d.good = true → ∀ p xs, B' p = some (.tup xs) → RepL K B' xs d.lefts → Q (.ref p) H') ∧ (d.good = false → E (.ref (He.ga K "NoKind")) none H')
def spEnd (K : PySem.W.Frag) : Sp := fun vs H Q E => ∃ B v d, vs = [v] ∧ Same B H ∧ RepD K B d v ∧ d.siz ≤ 100000 ∧ ∀ B' H', Gr [] B H B' H' → (d.good = true → ∀ v', RepD K B' d.last v' → Q v' H') ∧ (d.good = false → E (.ref (He.ga K "NoKind")) none H')
/-- what built is handed: the lefts (none: no tuple), and whether the end is let -/
def RepLo (K : PySem.W.Frag) (B : Hp) : Option (List Dd) → V → Prop
  | none, v => Sh K B v ∧ shB B v "tuple" = false
  | some ds, v => ∃ p xs, v = .ref p ∧ B p = some (.tup xs) ∧ RepL K B xs ds ∧ ds.length ≤ 1000 ∧ ∀ d ∈ ds, d.siz ≤ 100000
def okB (lo : Option (List Dd)) (v : V) : Bool := match lo with
  | none => false
  | some ds => goodL ds && inB 0 25 v
def spBuilt (K : PySem.W.Frag) : Sp := fun vs H Q E => ∃ B v u lo e, vs = [v, u] ∧ Same B H ∧ RepLo K B lo v ∧ RepD K B e u ∧ ∀ B' H', Gr [] B H B' H' → (okB lo u = true → ∀ ds v', lo = some ds → RepD K B' (mkD ds e) v' → Q v' H') ∧ (okB lo u = false → E (.ref (He.ga K "NoKind")) none H')
theorem passE {P : Program} {w : World} {K : PySem.W.Frag} {mg : Str → Option Value} {base : Heap} {N : List Str} {qual : Str} {scope : Scope} {f : Addr} {cdv : Value} {A : Around} {outer : List Env} {s : Shared} {H : Hp} {E : XK} : Passes (L2.CX P w) (cxOf (L2.CX P w) P w K mg base N qual scope f cdv A outer s H E) E :=
  passes_call (takes_of rfl rfl rfl rfl) (fun _ _ _ _ h => h)
section
variable {P : Program} {w : World} {K : PySem.W.Frag} {mg : Str → Option Value} {base : Heap}
theorem ok_lefts_of (T : Txt K mg) : DefOk P w K mg base CX0 1 "lefts_of" p_lefts_of (spLeftsOf K) := by
  refine T.d_lefts_of.ok sc_lefts_of (fun _ _ _ _ _ _ us hl => match us, hl with | [_], _ => rfl) (fun vs H Q E h => ?_) (fun f cdv A outer s H vs Q E hr h => ?_)
  · obtain ⟨B, v, d, rfl, _⟩ := h
    rfl
  · obtain ⟨B, v, d, rfl, hS, rd, hz, gd, k⟩ := h
    refine ⟨_, PSs.nox (pss_cons (ps_set (i := 1) sc_lefts_of.nd rfl (Or.inl rfl) (pe_lst pa_nil))
    (pss_cons (ps_while PassesOwn.never (pt_val (pe_callB call_isi (by rfl) T.f_isinstance (by decide +kernel) (pa_cons (pv 0) (pa_cons (pe_bltn (v := .ty "tuple") (by rfl) T.f_tuple (by decide +kernel) rfl) pa_nil))))
      (pss_cons (ps_expr (pe_bm PySem.F.plainAttrs_list PySem.F.slot_list_append PySem.F.type_list_append mt_append (pv 1) (pa_cons (pe_ix ix_tup (pv 0) pe_int (fun _ _ => rfl)) pa_nil)))
      (pss_one (ps_set (i := 0) sc_lefts_of.nd rfl (Or.inl rfl) (pe_ix ix_tup (pv 0) pe_int (fun _ _ => rfl))))))
    (pss_one (ps_ret (pe_callTy call_tupU (by rfl) T.f_tuple (by decide +kernel) (pa_cons (pv 1) pa_nil)))))), ?_⟩
    walk_at "go"
    refine ⟨sz5 (by simp), fun l hl => ?_⟩
    walk_at "go"
    have g1 : Gr [] B H B (upd H l (.lst [])) := Gr.cell hS hl
    have bl := bfresh hS hl
    refine i_while (fun m σ H' => ∃ (d' : Dd) (v' : V) (xs : List V) (ds : List Dd), m = d'.siz ∧ σ = [some v', some (.ref l)] ∧ Gr [] B H B H' ∧ H' l = some (.lst xs) ∧ RepD K B d' v' ∧ d'.good = true ∧ RepL K B xs ds ∧ ds ++ d'.lefts = d.lefts ∧ ds.length + d'.siz ≤ d.siz) d.siz
      ⟨d, v, [], [], rfl, rfl, g1, upd_same, rd, gd, True.intro, rfl, by simp⟩ ?_
    rintro m σ H' ⟨d', v', xs, ds, rfl, rfl, g, hL, hd, gd', rl, el, hz'⟩
    have sh := hd.sh
    have hS' := g.bh
    have zl := rl.len
    walk_at "go"
    cases d' with
    | pr a b =>
      obtain ⟨q, x, y, rfl, hq, hx, hy⟩ := hd
      rw [tT hq]
      refine iteT ?_
      refine i_turn ?_
      walk_at "go"
      refine ⟨tyL hL, ?_⟩
      walk_at "go"
      refine i_ixT (SqT.of (hS' _ _ hq)) atI0 ?_
      walk_at "go"
      simp only [Dd.siz] at hz'
      refine i_app hL (sz5' (by omega)) ?_
      have g3 := g.setN (o := .lst (xs ++ [x])) hl bl
      walk_at "go"
      refine i_ixT (SqT.of (g3.bh _ _ hq)) atI1 ?_
      walk_at "go"
      simp only [Dd.good, Bool.and_eq_true] at gd'
      refine ⟨b.siz, by simp only [Dd.siz]; omega, b, y, xs ++ [x], ds ++ [a], rfl, rfl, g3, upd_same, hy, gd'.2, rl.append ⟨hx, True.intro⟩, ?_, ?_⟩
      · rw [← el, List.append_assoc]; rfl
      · simp only [List.length_append, List.length_singleton]; omega
    | int i =>
      cases hd
      rw [tI]
      refine iteF ?_
      walk_at "go"
      refine i_tupL (SqL.of hL) fun p hp => ?_
      have gp := g.trans (Gr.new (o := .tup xs) g.bh hp)
      refine k _ _ p xs gp upd_same ?_
      rw [← el]
      show RepL K _ xs (ds ++ [])
      rw [List.append_nil]
      exact rl.mono (Same.new (bfresh g.bh hp))
    | odd => cases gd'
theorem ok_end_of (T : Txt K mg) : DefOk P w K mg base CX0 1 "end_of" p_end_of (spEndOf K) := by
  refine T.d_end_of.ok sc_end_of (fun _ _ _ _ _ _ us hl => match us, hl with | [_], _ => rfl) (fun vs H Q E h => ?_) (fun f cdv A outer s H vs Q E hr h => ?_)
  · obtain ⟨B, v, d, rfl, _⟩ := h
    rfl
  · obtain ⟨B, v, d, rfl, hS, rd, hz, gd, k⟩ := h
    refine ⟨_, PSs.nox (pss_cons (ps_while PassesOwn.never (pt_val (pe_callB call_isi (by rfl) T.f_isinstance (by decide +kernel) (pa_cons (pv 0) (pa_cons (pe_bltn (v := .ty "tuple") (by rfl) T.f_tuple (by decide +kernel) rfl) pa_nil))))
      (pss_one (ps_set (i := 0) sc_end_of.nd rfl (Or.inl rfl) (pe_ix ix_tup (pv 0) pe_int (fun _ _ => rfl)))))
    (pss_one (ps_ret (pv 0)))), ?_⟩
    walk_at "go"
    refine i_while (fun m σ H' => ∃ (d' : Dd) (v' : V), m = d'.siz ∧ σ = [some v'] ∧ H' = H ∧ RepD K B d' v' ∧ d'.good = true ∧ d'.last = d.last) d.siz
      ⟨d, v, rfl, rfl, rfl, rd, gd, rfl⟩ ?_
    rintro m σ H' ⟨d', v', rfl, rfl, rfl, hd, gd', el⟩
    have sh := hd.sh
    walk_at "go"
    cases d' with
    | pr a b =>
      obtain ⟨q, x, y, rfl, hq, hx, hy⟩ := hd
      rw [tT hq]
      refine iteT ?_
      refine i_turn ?_
      walk_at "go"
      refine i_ixT (SqT.of (hS _ _ hq)) atI1 ?_
      walk_at "go"
      simp only [Dd.good, Bool.and_eq_true] at gd'
      exact ⟨b.siz, by simp only [Dd.siz]; omega, b, y, rfl, rfl, rfl, hy, gd'.2, el⟩
    | int i =>
      cases hd
      rw [tI]
      refine iteF ?_
      walk_at "go"
      refine k _ ?_
      rw [← el]
      rfl
    | odd => cases gd'
theorem ok_built_of (T : Txt K mg) : DefOk P w K mg base CX0 1 "built_of" p_built_of (spBuiltOf K) := by
  refine T.d_built_of.ok sc_built_of (fun _ _ _ _ _ _ us hl => match us, hl with | [_, _], _ => rfl) (fun vs H Q E h => ?_) (fun f cdv A outer s H vs Q E hr h => ?_)
  · obtain ⟨B, p, v, xs, ds, e, rfl, _⟩ := h
    rfl
  · obtain ⟨B, p, v, xs, ds, e, rfl, hS, hp, rl, re, k⟩ := h
    refine ⟨_, PSs.nox (pss_cons (ps_for PassesOwn.never rfl (pi_tup (pe_revT (pv 0))) (pg_name (i := 2) sc_built_of.nd rfl (Or.inl rfl))
      (pss_one (ps_set (i := 1) sc_built_of.nd rfl (Or.inl rfl) (pe_tup (pa_cons (pv 2) (pa_cons (pv 1) pa_nil))))))
    (pss_one (ps_ret (pv 1)))), ?_⟩
    walk_at "go"
    refine ⟨p, xs, rfl, SqT.of (hS _ _ hp), fun q hq => ?_⟩
    have g1 : Gr [] B H (upd B q (.tup xs.reverse)) (upd H q (.tup xs.reverse)) := Gr.new hS hq
    have rr := rl.reverse
    have zl := rl.len
    refine ⟨q, rfl, ⟨_, SqT.of upd_same⟩, for_tup (K := K) (a := q) (xs := xs.reverse) (fun i σ H' => ∃ (B' : Hp) (v' : V) (v1 : Option V), σ = [some (.ref p), some v', v1] ∧ Gr [] B H B' H' ∧ H' q = some (.tup xs.reverse) ∧ Same B B' ∧ RepD K B' (mkD (ds.drop (ds.length - i)) e) v')
      ⟨_, v, none, rfl, g1, upd_same, g1.bb, by rw [Nat.sub_zero, List.drop_length]; exact re.mono g1.bb⟩ (fun i σ H' _ ⟨_, _, _, _, _, h, _⟩ => SqT.of h) ?_ ?_⟩
    · rintro i x σ H' hx ⟨B', v', v1, rfl, g, hq', s', rv⟩
      obtain ⟨d, hd, rd⟩ := rr.get hx
      walk_at "go"
      refine ⟨sz5 (by simp), fun r hr' => ?_⟩
      have g2 := g.trans (Gr.new (o := .tup [x, v']) g.bh hr')
      have sn := Same.new (o := .tup [x, v']) (bfresh g.bh hr')
      walk_at "go"
      refine ⟨_, .ref r, _, rfl, g2, (upd_ne (ne_of_none hq' hr')).trans hq', s'.trans sn, ?_⟩
      have hi : i < ds.length := by
        have := (List.getElem?_eq_some_iff.mp hx).1
        rw [List.length_reverse] at this
        omega
      have ed : ds.drop (ds.length - (i + 1)) = d :: ds.drop (ds.length - i) := by
        have h1 : ds.length - (i + 1) < ds.length := by omega
        rw [List.drop_eq_getElem_cons h1]
        rw [List.getElem?_reverse hi] at hd
        have h3 := (List.getElem?_eq_some_iff.mp hd).2
        have h4 : ds.length - (i + 1) + 1 = ds.length - i := by omega
        rw [h4]
        congr 1
        rw [← h3]
        congr 1
        omega
      rw [ed]
      exact ⟨r, x, v', rfl, upd_same, (rd.mono (s'.trans sn)), rv.mono sn⟩
    · rintro σ H' ⟨B', v', v1, rfl, g, _, _, rv⟩
      walk_at "go"
      refine k _ _ _ g ?_
      rw [List.length_reverse, zl, Nat.sub_self, List.drop_zero] at rv
      exact rv
theorem ok_lefts (T : Txt K mg) (Dcheck_kind : DefOk P w K mg base (L2.CX P w) 4 "check_kind" p_check_kind (spCheck K)) (Dlefts_of : DefOk P w K mg base CX0 1 "lefts_of" p_lefts_of (spLeftsOf K)) :
    DefOk P w K mg base (L2.CX P w) 5 "lefts" p_lefts (spLefts K) := by
  refine T.d_lefts.ok sc_lefts (fun _ _ _ _ _ _ us hl => match us, hl with | [_], _ => rfl) (fun vs H Q E h => ?_) (fun f cdv A outer s H vs Q E hr h => ?_)
  · obtain ⟨B, v, d, rfl, _⟩ := h
    rfl
  · obtain ⟨B, v, d, rfl, hS, rd, hz, k⟩ := h
    refine ⟨_, (pss_cons (ps_expr (pe_callD Dcheck_kind (hr.mono (by first | decide | omega)) rfl passE (pa_cons (pv 0) pa_nil)))
    (pss_one (ps_ret (pe_callD Dlefts_of (hr.mono (by first | decide | omega)) rfl pass0 (pa_cons (pv 0) pa_nil))))), ?_⟩
    walk_at "go"
    refine ⟨B, v, d, rfl, hS, rd, hz, fun B' H' g => ⟨fun gd => ?_, fun gd => (k _ _ g).2 gd⟩⟩
    walk_at "go"
    refine ⟨B', v, d, rfl, g.bh, rd.mono g.bb, hz, gd, fun B2 H2 p xs g2 hp hl => ?_⟩
    exact (k _ _ (g.trans g2)).1 gd p xs hp hl
theorem ok_end (T : Txt K mg) (Dcheck_kind : DefOk P w K mg base (L2.CX P w) 4 "check_kind" p_check_kind (spCheck K)) (Dend_of : DefOk P w K mg base CX0 1 "end_of" p_end_of (spEndOf K)) :
    DefOk P w K mg base (L2.CX P w) 5 "end" p_end (spEnd K) := by
  refine T.d_end.ok sc_end (fun _ _ _ _ _ _ us hl => match us, hl with | [_], _ => rfl) (fun vs H Q E h => ?_) (fun f cdv A outer s H vs Q E hr h => ?_)
  · obtain ⟨B, v, d, rfl, _⟩ := h
    rfl
  · obtain ⟨B, v, d, rfl, hS, rd, hz, k⟩ := h
    refine ⟨_, (pss_cons (ps_expr (pe_callD Dcheck_kind (hr.mono (by first | decide | omega)) rfl passE (pa_cons (pv 0) pa_nil)))
    (pss_one (ps_ret (pe_callD Dend_of (hr.mono (by first | decide | omega)) rfl pass0 (pa_cons (pv 0) pa_nil))))), ?_⟩
    walk_at "go"
    refine ⟨B, v, d, rfl, hS, rd, hz, fun B' H' g => ⟨fun gd => ?_, fun gd => (k _ _ g).2 gd⟩⟩
    walk_at "go"
    exact ⟨B', v, d, rfl, g.bh, rd.mono g.bb, hz, gd, fun v' hv => (k _ _ g).1 gd v' hv⟩
theorem ok_built (T : Txt K mg) (Dis_kind_of_any_size : DefOk P w K mg base CX0 3 "is_kind_of_any_size" p_is_kind_of_any_size (spAnySize K)) (Dis_within : DefOk P w K mg base CX0 2 "is_within" p_is_within (spIsWithin K)) (Dbuilt_of : DefOk P w K mg base CX0 1 "built_of" p_built_of (spBuiltOf K)) :
    DefOk P w K mg base (L2.CX P w) 5 "built" p_built (spBuilt K) := by
  refine T.d_built.ok sc_built (fun _ _ _ _ _ _ us hl => match us, hl with | [_, _], _ => rfl) (fun vs H Q E h => ?_) (fun f cdv A outer s H vs Q E hr h => ?_)
  · obtain ⟨B, v, u, lo, e, rfl, _⟩ := h
    rfl
  · obtain ⟨B, v, u, lo, e, rfl, hS, rlo, re, k⟩ := h
    refine ⟨_, (pss_cons (ps_if (PW.pt (pw_or (pt_not (pt_val (pe_callB call_isi (by rfl) T.f_isinstance (by decide +kernel) (pa_cons (pv 0) (pa_cons (pe_bltn (v := .ty "tuple") (by rfl) T.f_tuple (by decide +kernel) rfl) pa_nil))))) (pw_or1 (pt_not (pt_val (pe_callB (cr_all rfl) (by rfl) T.f_all (by decide +kernel) (pa_cons (pe_lc (own := [("left", 2)]) (g := gName 2) (tt := tYes) rfl sc_built.nd (pi_tup (pv 0)) (blkOk_by (own := [("left", 2)]) (N := n_built) (sc := defScope s_built) (by decide +kernel)) (fun _ _ _ _ _ => (pg_name (i := 2) sc_built.nd rfl (Or.inl rfl))) (fun _ _ _ _ _ => pts_nil) (fun _ _ _ _ _ => (pe_callD Dis_kind_of_any_size (hr.mono (by first | decide | omega)) rfl pass0 (pa_cons (pv 2) pa_nil)))) pa_nil)))))))
      (pss_one (ps_raise rfl (takes_of rfl rfl rfl rfl) (pmk_x T.x_NoKind rfl)))
      pss_nil)
    (pss_cons (ps_if (pt_not (pt_val (pe_callD Dis_within (hr.mono (by first | decide | omega)) rfl pass0 (pa_cons (pv 1) (pa_cons pe_int (pa_cons (pe_globD T.c_LAST_LETTER) pa_nil))))))
      (pss_one (ps_raise rfl (takes_of rfl rfl rfl rfl) (pmk_x T.x_NoKind rfl)))
      pss_nil)
    (pss_one (ps_ret (pe_callD Dbuilt_of (hr.mono (by first | decide | omega)) rfl pass0 (pa_cons (pv 0) (pa_cons (pv 1) pa_nil))))))), ?_⟩
    have sh : Sh K B v := by
      cases lo with
      | none => exact rlo.1
      | some ds => obtain ⟨p, xs, rfl, hp, _⟩ := rlo; exact .tup hp
    walk_at "go"
    cases lo with
    | none =>
      rw [rlo.2]
      refine iteT ?_
      walk_at "go"
      exact (k _ _ (Gr.refl hS)).2 rfl
    | some ds =>
      obtain ⟨p, xs, rfl, hp, rl, hn, hz⟩ := rlo
      have zl := rl.len
      rw [tT hp]
      refine iteF ?_
      walk_at "go"
      refine ⟨p, rfl, ⟨_, SqT.of (hS _ _ hp)⟩, fun D hD => lc_tup (K := K) (a := p) (xs := xs) (fun i H' => ∃ B', Gr [] B H B' H' ∧ B' D = none ∧ H' D = some (.lst ((ds.take i).map fun d => V.bl d.good)))
        ⟨B, Gr.cell hS hD, bfresh hS hD, upd_same⟩ (fun i H' _ ⟨B', g, _⟩ => SqT.of (g.bh _ _ (g.bb _ _ hp))) ?_ ?_⟩
      · rintro i x H' hx ⟨B', g, bD, hDl⟩
        obtain ⟨d, hd, rd⟩ := rl.get hx
        walk_at "go"
        refine ⟨rfl, ?_⟩
        walk_at "go"
        refine ⟨B', x, d, rfl, g.bh, rd.mono g.bb, hz d (List.mem_of_getElem? hd), fun B2 H2 g2 => ?_⟩
        have g3 := g.trans g2
        have hi : i < ds.length := (List.getElem?_eq_some_iff.mp hd).1
        refine ⟨_, g2.keep _ _ (by simp) hDl, sz5' (by rw [List.length_map, List.length_take]; omega), B2, g3.setN hD (g2.bnone bD hDl), g2.bnone bD hDl, ?_⟩
        rw [upd_same, List.take_add_one, hd]
        simp
      · rintro H' ⟨B', g, bD, hDl⟩
        rw [zl, List.take_length] at hDl
        walk_at "go"
        refine i_all (bs := ds.map Dd.good) (SqL.of (by rw [hDl, List.map_map]; rfl)) ?_
        walk_at "go"
        have eg : (ds.map Dd.good).all id = goodL ds := by rw [List.all_map]; rfl
        rw [eg]
        refine i_case (fun c => ?_) (fun c => ?_)
        · walk_at "go"
          refine (k _ _ g).2 ?_
          show (goodL ds && inB 0 25 u) = false
          rw [nT c, Bool.false_and]
        · walk_at "go"
          refine ⟨B', u, 0, 25, rfl, g.bh, (re.mono g.bb).sh, ?_⟩
          walk_at "go"
          refine i_case (fun c2 => ?_) (fun c2 => ?_)
          · walk_at "go"
            refine (k _ _ g).2 ?_
            show (goodL ds && inB 0 25 u) = false
            rw [nT c2, Bool.and_false]
          · walk_at "go"
            refine ⟨B', p, u, xs, ds, e, rfl, g.bh, g.bb _ _ hp, rl.mono g.bb, re.mono g.bb, fun B2 H2 v' g2 rv => ?_⟩
            refine (k _ _ (g.trans g2)).1 ?_ ds v' rfl rv
            show (goodL ds && inB 0 25 u) = true
            rw [nF c, nF c2]; rfl
end

end K06
set_option maxRecDepth 100000
set_option maxHeartbeats 2000000
namespace K06
open PySem PySem.Spec PyProof.Rows L2 Us
/-! ### the hand -/
def HandAt (B H : Hp) (a : Addr) : Prop := B a = none ∧ ∃ (c : Addr) (ns : List Int) (i big seed n : Int), H a = some (.lst [.ref c, .int i, .int big, .int seed, .int n]) ∧ B c = some (.lst (ns.map V.int)) ∧ (∀ x ∈ ns, 0 ≤ x) ∧ 0 ≤ i ∧ 0 ≤ big ∧ 0 ≤ seed ∧ seed < 2147483648 ∧ 0 ≤ n
theorem HandAt.mono {B B' H H' : Hp} {a : Addr} {ms : List Addr} (g : Gr ms B H B' H') (ha : a ∉ ms) (h : HandAt B H a) : HandAt B' H' a := by
  obtain ⟨b, c, ns, i, big, seed, n, hH, hc, r⟩ := h
  exact ⟨g.bnone b hH, c, ns, i, big, seed, n, g.keep _ _ ha hH, g.bb _ _ hc, r⟩
theorem Gr.setA {B H H1 : Hp} {a : Addr} {u o : HO} (g : Gr [a] B H B H1) (hB : B a = none) (h : H1 a = some u) : Gr [a] B H B (upd H1 a o) := g.trans (Gr.set g.bh hB h (List.mem_singleton.mpr rfl))
def spDraw (K : PySem.W.Frag) : Sp := fun vs H Q _ => ∃ B a m, vs = [.ref a, .int m] ∧ 0 < m ∧ m < 1073741824 ∧ Same B H ∧ HandAt B H a ∧ ∀ H' d, Gr [a] B H B H' → HandAt B H' a → 0 ≤ d → d < m → Q (.int d) H'
section
variable {P : Program} {w : World} {K : PySem.W.Frag} {mg : Str → Option Value} {base : Heap}
theorem ok_draw (T : Txt K mg) : DefOk P w K mg base CX0 1 "_law_draw" p_law_draw (spDraw K) := by
  refine T.d_law_draw.ok sc_law_draw (fun _ _ _ _ _ _ us hl => match us, hl with | [_, _], _ => rfl) (fun vs H Q E h => ?_) (fun f cdv A outer s H vs Q E hr h => ?_)
  · obtain ⟨B, a, m, rfl, _⟩ := h
    rfl
  · obtain ⟨B, a, m, rfl, hm0, hm1, hS, hA, k⟩ := h
    refine ⟨_, PSs.nox (pss_cons (ps_if (PW.pt (pw_and (pt_cmpR op_eq (pe_ix ix_list (pv 0) pe_int (fun _ _ => rfl)) pe_int (nomark _)) (pw_and1 (pt_cmpR op_lt (pe_ix ix_list (pv 0) pe_int (fun _ _ => rfl)) (pe_callB call_lenU (by rfl) T.f_len (by decide +kernel) (pa_cons (pe_ix ix_list (pv 0) pe_int (fun _ _ => rfl)) pa_nil)) (nomark _)))))
      (pss_cons (ps_set (i := 2) sc_law_draw.nd rfl (Or.inl rfl) (pe_ix ix_list (pe_ix ix_list (pv 0) pe_int (fun _ _ => rfl)) (pe_ix ix_list (pv 0) pe_int (fun _ _ => rfl)) (fun _ _ => rfl)))
      (pss_cons (ps_asg (pe_op op_add (pe_ix ix_list (pv 0) pe_int (fun _ _ => rfl)) pe_int) (pg_sub (pv 0) pe_int set_list))
      (pss_cons (ps_asg (pe_op op_mod (pe_callTy call_intU (by rfl) T.f_int (by decide +kernel) (pa_cons (pe_op op_add (pe_op op_add (pe_op op_mul (pe_ix ix_list (pv 0) pe_int (fun _ _ => rfl)) pe_int) (pv 2)) pe_int) pa_nil)) pe_int) (pg_sub (pv 0) pe_int set_list))
      (pss_one (ps_if (pt_cmpR op_ge (pv 2) (pe_op op_pow pe_int pe_int) (nomark _))
        (pss_one (ps_asg (pv 2) (pg_sub (pv 0) pe_int set_list)))
        pss_nil)))))
      pss_nil)
    (pss_cons (ps_if (pt_cmpR op_gt (pe_ix ix_list (pv 0) pe_int (fun _ _ => rfl)) pe_int (nomark _))
      (pss_cons (ps_set (i := 3) sc_law_draw.nd rfl (Or.inl rfl) (pe_op op_mod (pe_callTy call_intU (by rfl) T.f_int (by decide +kernel) (pa_cons (pe_ix ix_list (pv 0) pe_int (fun _ _ => rfl)) pa_nil)) (pv 1)))
      (pss_cons (ps_asg (pe_op op_fdiv (pe_ix ix_list (pv 0) pe_int (fun _ _ => rfl)) (pv 1)) (pg_sub (pv 0) pe_int set_list))
      (pss_one (ps_ret (pv 3)))))
      pss_nil)
    (pss_cons (ps_asg (pe_op op_add (pe_ix ix_list (pv 0) pe_int (fun _ _ => rfl)) pe_int) (pg_sub (pv 0) pe_int set_list))
    (pss_cons (ps_set (i := 4) sc_law_draw.nd rfl (Or.inl rfl) (pe_op op_mod (pe_callTy call_intU (by rfl) T.f_int (by decide +kernel) (pa_cons (pe_op op_mul (pe_callTy call_intU (by rfl) T.f_int (by decide +kernel) (pa_cons (pe_op op_add (pe_ix ix_list (pv 0) pe_int (fun _ _ => rfl)) (pe_op op_mul pe_int (pe_ix ix_list (pv 0) pe_int (fun _ _ => rfl)))) pa_nil)) pe_int) pa_nil)) pe_int))
    (pss_cons (ps_set (i := 4) sc_law_draw.nd rfl (Or.inl rfl) (pe_op op_mod (pe_callTy call_intU (by rfl) T.f_int (by decide +kernel) (pa_cons (pe_op op_mul (pv 4) (pe_op op_add (pe_op op_fdiv (pv 4) pe_int) pe_int)) pa_nil)) pe_int))
    (pss_cons (ps_set (i := 4) sc_law_draw.nd rfl (Or.inl rfl) (pe_op op_mod (pe_callTy call_intU (by rfl) T.f_int (by decide +kernel) (pa_cons (pe_op op_mul (pv 4) (pe_op op_add (pe_op op_fdiv (pv 4) pe_int) pe_int)) pa_nil)) pe_int))
    (pss_one (ps_ret (pe_op op_mod (pe_callTy call_intU (by rfl) T.f_int (by decide +kernel) (pa_cons (pe_op op_fdiv (pv 4) pe_int) pa_nil)) (pv 1)))))))))), ?_⟩
    refine i_seq (i_join (fun σ' H' => ∃ v2, σ' = [some (.ref a), some (.int m), v2, none, none] ∧ Gr [a] B H B H' ∧ HandAt B H' a) ?_ (fun hr => ?_))
    · rintro σ' H' ⟨v2, rfl, g, hA'⟩
      obtain ⟨bA, c, ns, i, big, seed, n, hH, hc, hns, hi, hbig, hs0, hs1, hn⟩ := hA'
      walk_at "go"
      refine i_ixL (SqL.of hH) atI2 ?_
      walk_at "go"
      refine i_case (fun c1 => ?_) (fun c1 => ?_)
      · have hb : 0 < big := of_decide_eq_true c1
        walk_at "go"
        refine i_ixL (SqL.of hH) atI2 ?_
        walk_at "go"
        refine i_rI hm0 ?_
        walk_at "go"
        refine i_ixL (SqL.of hH) atI2 ?_
        walk_at "go"
        refine i_rI ⟨hm0, hm1⟩ ?_
        walk_at "go"
        refine i_setL hH (j := 2) rfl ?_
        walk_at "go"
        have g2 := Gr.setA (o := .lst [.ref c, .int i, .int (big / m), .int seed, .int n]) g bA hH
        exact k _ _ g2 ⟨bA, c, ns, i, big / m, seed, n, upd_same, hc, hns, hi, Int.ediv_nonneg hbig (Int.le_of_lt hm0), hs0, hs1, hn⟩ (Int.emod_nonneg _ (by omega)) (Int.emod_lt_of_pos _ hm0)
      · walk_at "go"
        refine i_ixL (SqL.of hH) atI4 ?_
        walk_at "go"
        refine i_setL hH (j := 4) rfl ?_
        have g2 := Gr.setA (o := .lst [.ref c, .int i, .int big, .int seed, .int (n + 1)]) g bA hH
        have h2 : upd H' a (.lst [.ref c, .int i, .int big, .int seed, .int (n + 1)]) a = some (.lst [.ref c, .int i, .int big, .int seed, .int (n + 1)]) := upd_same
        have hA2 : HandAt B (upd H' a (.lst [.ref c, .int i, .int big, .int seed, .int (n + 1)])) a := ⟨bA, c, ns, i, big, seed, n + 1, upd_same, hc, hns, hi, hbig, hs0, hs1, by omega⟩
        walk_at "go"
        refine i_ixL (SqL.of h2) atI3 ?_
        walk_at "go"
        refine i_ixL (SqL.of h2) atI4 ?_
        walk_at "go"
        refine i_rI (.inl ⟨by decide, by decide⟩) ?_
        walk_at "go"
        refine i_rI (.inr ⟨by decide, by decide⟩) ?_
        walk_at "go"
        refine i_rI (by decide) ?_
        generalize e1 : (seed + 7919 * (n + 1)) * 48271 % 2147483647 = x1
        have p1 : 0 ≤ x1 := by rw [← e1]; exact Int.emod_nonneg _ (by decide)
        have p2 : x1 < 2147483647 := by rw [← e1]; exact Int.emod_lt_of_pos _ (by decide)
        walk_at "go"
        refine i_rI ⟨by decide, by decide⟩ ?_
        walk_at "go"
        refine i_rI (.inl ⟨by omega, by omega⟩) ?_
        walk_at "go"
        refine i_rI (by decide) ?_
        generalize e2 : x1 * (x1 / 1009 + 69621) % 2147483647 = x2
        have p3 : 0 ≤ x2 := by rw [← e2]; exact Int.emod_nonneg _ (by decide)
        have p4 : x2 < 2147483647 := by rw [← e2]; exact Int.emod_lt_of_pos _ (by decide)
        walk_at "go"
        refine i_rI ⟨by decide, by decide⟩ ?_
        walk_at "go"
        refine i_rI (.inl ⟨by omega, by omega⟩) ?_
        walk_at "go"
        refine i_rI (by decide) ?_
        generalize e3 : x2 * (x2 / 2003 + 40692) % 2147483399 = x3
        walk_at "go"
        refine i_rI ⟨by decide, by decide⟩ ?_
        walk_at "go"
        refine i_rI hm0 ?_
        exact k _ _ g2 hA2 (Int.emod_nonneg _ (by omega)) (Int.emod_lt_of_pos _ hm0)
    · obtain ⟨bA, c, ns, i, big, seed, n, hH, hc, hns, hi, hbig, hs0, hs1, hn⟩ := hA
      have g0 : Gr [a] B H B H := Gr.refl hS
      walk_at "go"
      refine i_ixL (SqL.of hH) atI2 ?_
      walk_at "go"
      rw [dI]
      refine i_case (fun c1 => ?_) (fun c1 => ?_)
      · walk_at "go"
        refine i_ixL (SqL.of hH) atI1 ?_
        walk_at "go"
        refine i_ixL (SqL.of hH) atI0 ?_
        walk_at "go"
        refine i_lenL (SqL.of (hS _ _ hc)) ?_
        walk_at "go"
        refine i_case (fun c2 => ?_) (fun c2 => ?_)
        · have hlt : i < (ns.length : Int) := by have := of_decide_eq_true c2; rw [List.length_map] at this; exact this
          obtain ⟨j, rfl⟩ : ∃ j : Nat, i = (j : Int) := ⟨i.toNat, by omega⟩
          have hj : j < ns.length := by omega
          have hcell : 0 ≤ ns[j] := hns _ (List.getElem_mem hj)
          walk_at "go"
          refine i_ixL (SqL.of hH) atI0 ?_
          walk_at "go"
          refine i_ixL (SqL.of hH) atI1 ?_
          walk_at "go"
          refine i_ixL (SqL.of (hS _ _ hc)) (atI_nat (v := .int ns[j]) (by rw [List.getElem?_map, List.getElem?_eq_getElem hj]; rfl)) ?_
          generalize ns[j] = cell at hcell ⊢
          walk_at "go"
          refine i_ixL (SqL.of hH) atI1 ?_
          walk_at "go"
          refine i_setL hH (j := 1) rfl ?_
          have g2 := Gr.setA (o := .lst [.ref c, .int ((j : Int) + 1), .int big, .int seed, .int n]) g0 bA hH
          have h2 : upd H a (.lst [.ref c, .int ((j : Int) + 1), .int big, .int seed, .int n]) a = some (.lst [.ref c, .int ((j : Int) + 1), .int big, .int seed, .int n]) := upd_same
          walk_at "go"
          refine i_ixL (SqL.of h2) atI3 ?_
          walk_at "go"
          refine i_rI (.inr ⟨by decide, by decide⟩) ?_
          walk_at "go"
          refine i_rI (by decide) ?_
          generalize e1 : (seed * 69621 + cell + 11) % 2147483629 = x1
          have p1 : 0 ≤ x1 := by rw [← e1]; exact Int.emod_nonneg _ (by decide)
          have p2 : x1 < 2147483629 := by rw [← e1]; exact Int.emod_lt_of_pos _ (by decide)
          walk_at "go"
          refine i_setL h2 (j := 3) rfl ?_
          have g3 := Gr.setA (o := .lst [.ref c, .int ((j : Int) + 1), .int big, .int x1, .int n]) g2 bA h2
          have h3 : upd (upd H a (.lst [.ref c, .int ((j : Int) + 1), .int big, .int seed, .int n])) a (.lst [.ref c, .int ((j : Int) + 1), .int big, .int x1, .int n]) a = some (.lst [.ref c, .int ((j : Int) + 1), .int big, .int x1, .int n]) := upd_same
          walk_at "go"
          refine i_rI ⟨by decide, by decide, by decide⟩ ?_
          walk_at "go"
          refine i_case (fun c3 => ?_) (fun c3 => ?_)
          · walk_at "go"
            refine i_setL h3 (j := 2) rfl ?_
            refine hr _ _ ⟨_, rfl, Gr.setA (o := .lst [.ref c, .int ((j : Int) + 1), .int cell, .int x1, .int n]) g3 bA h3, bA, c, ns, _, cell, x1, n, upd_same, hc, hns, by omega, hcell, p1, by omega, hn⟩
          · exact hr _ _ ⟨_, rfl, g3, bA, c, ns, _, big, x1, n, upd_same, hc, hns, by omega, hbig, p1, by omega, hn⟩
        · exact hr _ _ ⟨_, rfl, g0, bA, c, ns, i, big, seed, n, hH, hc, hns, hi, hbig, hs0, hs1, hn⟩
      · exact hr _ _ ⟨_, rfl, g0, bA, c, ns, i, big, seed, n, hH, hc, hns, hi, hbig, hs0, hs1, hn⟩
end

end K06
set_option maxRecDepth 100000
set_option maxHeartbeats 2000000
namespace K06
open PySem PySem.Spec PyProof.Rows L2 Us
/-! ### data, told twice -/
inductive TT where
  | v (x : V) | nil | cons (a b : TT) | tup (t : TT) | lst (t : TT)
def TT.isIt : TT → Bool
  | .v _ => true
  | .tup _ => true
  | .lst _ => true
  | _ => false
def TT.dep : TT → Nat
  | .cons a b => max a.dep b.dep
  | .tup t => 1 + t.dep
  | .lst t => 1 + t.dep
  | _ => 0
def TT.item : TT → Nat → Option TT
  | .cons a _, 0 => some a
  | .cons _ b, i + 1 => b.item i
  | _, _ => none
def TT.len : TT → Nat
  | .cons _ b => b.len + 1
  | _ => 0
def scV : V → Bool
  | .non => true
  | .bl _ => true
  | .int _ => true
  | .str _ => true
  | _ => false
/-- the values vs bear t -/
def Rep (B : Hp) : TT → List V → Prop
  | .v x, vs => vs = [x] ∧ scV x = true
  | .nil, vs => vs = []
  | .cons a b, vs => ∃ x ys, vs = x :: ys ∧ (a.isIt = true ∧ b.isIt = false) ∧ Rep B a [x] ∧ Rep B b ys
  | .tup t, vs => ∃ p us, vs = [.ref p] ∧ B p = some (.tup us) ∧ us.length ≤ 100000 ∧ t.isIt = false ∧ Rep B t us
  | .lst t, vs => ∃ p us, vs = [.ref p] ∧ B p = some (.lst us) ∧ us.length ≤ 100000 ∧ t.isIt = false ∧ Rep B t us
theorem Rep.mono {B B' : Hp} (s : Same B B') : ∀ {t : TT} {vs : List V}, Rep B t vs → Rep B' t vs
  | .v x, vs, h => h
  | .nil, vs, h => h
  | .cons a b, vs, h => by obtain ⟨x, ys, e, i, ha, hb⟩ := h; exact ⟨x, ys, e, i, ha.mono s, hb.mono s⟩
  | .tup t, vs, h => by obtain ⟨p, us, e, hp, l, i, r⟩ := h; exact ⟨p, us, e, s _ _ hp, l, i, r.mono s⟩
  | .lst t, vs, h => by obtain ⟨p, us, e, hp, l, i, r⟩ := h; exact ⟨p, us, e, s _ _ hp, l, i, r.mono s⟩
theorem Rep.get {B : Hp} : ∀ {t : TT} {vs : List V} {i : Nat}, Rep B t vs → t.isIt = false → i < vs.length → ∃ a x, t.item i = some a ∧ vs[i]? = some x ∧ a.isIt = true ∧ Rep B a [x] ∧ a.dep ≤ t.dep
  | .v x, vs, i, h, e, l => by cases e
  | .nil, vs, i, h, e, l => by cases h; cases l
  | .cons a b, vs, 0, h, e, l => by obtain ⟨x, ys, rfl, ia, ha, hb⟩ := h; exact ⟨a, x, rfl, rfl, ia.1, ha, Nat.le_max_left _ _⟩
  | .cons a b, vs, i + 1, h, e, l => by
    obtain ⟨x, ys, rfl, ia, ha, hb⟩ := h
    obtain ⟨c, y, e1, e2, e3, e4, e5⟩ := hb.get (i := i) ia.2 (by simpa using l)
    exact ⟨c, y, e1, by simpa using e2, e3, e4, Nat.le_trans e5 (Nat.le_max_right _ _)⟩
  | .tup t, vs, i, h, e, l => by cases e
  | .lst t, vs, i, h, e, l => by cases e
theorem Rep.leq {B B' : Hp} : ∀ {t : TT} {vs us : List V}, t.isIt = false → Rep B t vs → Rep B' t us → vs.length = us.length
  | .nil, vs, us, e, h, h' => by cases h; cases h'; rfl
  | .cons a b, vs, us, e, h, h' => by
    obtain ⟨x, ys, rfl, i, ha, hb⟩ := h
    obtain ⟨x', ys', rfl, i', ha', hb'⟩ := h'
    exact congrArg Nat.succ (Rep.leq i.2 hb hb')
  | .v x, vs, us, e, h, h' => by cases e
  | .tup t, vs, us, e, h, h' => by cases e
  | .lst t, vs, us, e, h, h' => by cases e
theorem scV_sh {K : PySem.W.Frag} {B : Hp} {x : V} (h : scV x = true) : Sh K B x := by
  cases x with
  | non => exact .non
  | bl b => exact .bl b
  | int i => exact .int i
  | str s => exact .str s
  | _ => cases h
theorem scV_sc {x : V} (h : scV x = true) : scal x x = true := by cases x <;> first | rfl | cases h
theorem scV_shB {B : Hp} {x : V} (h : scV x = true) : shB B x "tuple" = false ∧ shB B x "list" = false ∧ shB B x "dict" = false := by
  cases x with
  | non => exact ⟨rfl, rfl, rfl⟩
  | bl b => exact ⟨by show ("tuple" == "bool" || "tuple" == "int") = false; decide, by show ("list" == "bool" || "list" == "int") = false; decide, by show ("dict" == "bool" || "dict" == "int") = false; decide⟩
  | int i => exact ⟨by show ("tuple" == "int") = false; decide, by show ("list" == "int") = false; decide, by show ("dict" == "int") = false; decide⟩
  | str s => exact ⟨by show ("tuple" == "str") = false; decide, by show ("list" == "str") = false; decide, by show ("dict" == "str") = false; decide⟩
  | _ => cases h
theorem rep_two {B : Hp} {t : TT} {x y : V} (it : t.isIt = true) (rx : Rep B t [x]) (ry : Rep B t [y]) : (x = y ∧ scV x = true) ∨ ∃ t' px py us ws, t.dep = 1 + t'.dep ∧ x = .ref px ∧ y = .ref py ∧ ((B px = some (.tup us) ∧ B py = some (.tup ws)) ∨ (B px = some (.lst us) ∧ B py = some (.lst ws))) ∧ us.length = ws.length ∧ ws.length ≤ 100000 ∧
    t'.isIt = false ∧ Rep B t' us ∧ Rep B t' ws := by
  cases t with
  | nil => cases it
  | cons a b => cases it
  | v z =>
    obtain ⟨e, sz⟩ := rx
    cases e
    obtain ⟨e, _⟩ := ry
    cases e
    exact .inl ⟨rfl, sz⟩
  | tup t' =>
    obtain ⟨px, us, e, hp, l, i, r⟩ := rx
    cases e
    obtain ⟨py, ws, e, hp', l', i', r'⟩ := ry
    cases e
    exact .inr ⟨t', px, py, us, ws, rfl, rfl, rfl, .inl ⟨hp, hp'⟩, Rep.leq i r r', l', i, r, r'⟩
  | lst t' =>
    obtain ⟨px, us, e, hp, l, i, r⟩ := rx
    cases e
    obtain ⟨py, ws, e, hp', l', i', r'⟩ := ry
    cases e
    exact .inr ⟨t', px, py, us, ws, rfl, rfl, rfl, .inr ⟨hp, hp'⟩, Rep.leq i r r', l', i, r, r'⟩
def spIs (K : PySem.W.Frag) (n : Nat) : Sp := fun vs H Q _ => ∃ B x y t, vs = [x, y] ∧ Same B H ∧ t.isIt = true ∧ Rep B t [x] ∧ Rep B t [y] ∧ t.dep < n ∧ ∀ B' H', Gr [] B H B' H' → Q (.bl true) H'
section
variable {P : Program} {w : World} {K : PySem.W.Frag} {mg : Str → Option Value} {base : Heap}
/-- a sequence of either kind, compared item by item -/
theorem is_step {n : Nat} (Dlaw_is : DefOk P w K mg base CX0 (n + 1) "_law_is" p_law_is (spIs K n)) (T : Txt K mg) : DefOk P w K mg base CX0 (n + 2) "_law_is" p_law_is (spIs K (n + 1)) := by
  refine T.d_law_is.ok sc_law_is (fun _ _ _ _ _ _ us hl => match us, hl with | [_, _], _ => rfl) (fun vs H Q E h => ?_) (fun f cdv A outer s H vs Q E hr h => ?_)
  · obtain ⟨B, x, y, t, rfl, _⟩ := h
    rfl
  · obtain ⟨B, x, y, t, rfl, hS, it, rx, ry, hd, k⟩ := h
    refine ⟨_, PSs.nox (pss_cons (ps_if (pt_val (pe_callB call_isiT (by rfl) T.f_isinstance (by decide +kernel) (pa_cons (pv 1) (pa_cons (pe_tup (pa_cons (pe_bltn (v := .ty "tuple") (by rfl) T.f_tuple (by decide +kernel) rfl) (pa_cons (pe_bltn (v := .ty "list") (by rfl) T.f_list (by decide +kernel) rfl) pa_nil))) pa_nil))))
      (pss_cons (ps_if (PW.pt (pw_or (pt_cmpR op_ne (pe_callB call_isi (by rfl) T.f_isinstance (by decide +kernel) (pa_cons (pv 0) (pa_cons (pe_bltn (v := .ty "tuple") (by rfl) T.f_tuple (by decide +kernel) rfl) pa_nil))) (pe_callB call_isi (by rfl) T.f_isinstance (by decide +kernel) (pa_cons (pv 1) (pa_cons (pe_bltn (v := .ty "tuple") (by rfl) T.f_tuple (by decide +kernel) rfl) pa_nil))) (nomark _)) (pw_or1 (pt_cmpR op_ne (pe_callB call_isi (by rfl) T.f_isinstance (by decide +kernel) (pa_cons (pv 0) (pa_cons (pe_bltn (v := .ty "list") (by rfl) T.f_list (by decide +kernel) rfl) pa_nil))) (pe_callB call_isi (by rfl) T.f_isinstance (by decide +kernel) (pa_cons (pv 1) (pa_cons (pe_bltn (v := .ty "list") (by rfl) T.f_list (by decide +kernel) rfl) pa_nil))) (nomark _)))))
        (pss_one (ps_ret pe_bl))
        pss_nil)
      (pss_one (ps_ret (pe_and (pe_cmpR op_eq (pe_callB call_lenU (by rfl) T.f_len (by decide +kernel) (pa_cons (pv 0) pa_nil)) (pe_callB call_lenU (by rfl) T.f_len (by decide +kernel) (pa_cons (pv 1) pa_nil)) (nomark _)) (pe_one (pe_callB (cr_all rfl) (by rfl) T.f_all (by decide +kernel) (pa_cons (pe_lc (own := [("_law_k", 2)]) (g := gName 2) (tt := tYes) rfl sc_law_is.nd (pi_range1 (by rfl) T.f_range (pa_cons (pe_callB call_lenU (by rfl) T.f_len (by decide +kernel) (pa_cons (pv 1) pa_nil)) pa_nil)) (blkOk_by (own := [("_law_k", 2)]) (N := n_law_is) (sc := defScope s_law_is) (by decide +kernel)) (fun _ _ _ _ _ => (pg_name (i := 2) sc_law_is.nd rfl (Or.inl rfl))) (fun _ _ _ _ _ => pts_nil) (fun _ _ _ _ _ => (pe_callD Dlaw_is (hr.mono (by first | decide | omega)) rfl pass0 (pa_cons (pe_ix (r := rIx K) ix_seq (pv 0) (pv 2) (fun _ _ => rfl)) (pa_cons (pe_ix (r := rIx K) ix_seq (pv 1) (pv 2) (fun _ _ => rfl)) pa_nil))))) pa_nil)))))))
      pss_nil)
    (pss_cons (ps_if (pt_val (pe_callB call_isi (by rfl) T.f_isinstance (by decide +kernel) (pa_cons (pv 1) (pa_cons (pe_bltn (v := .ty "dict") (by rfl) T.f_dict (by decide +kernel) rfl) pa_nil))))
      (pss_one (ps_ret (pe_and (pe_callB call_isi (by rfl) T.f_isinstance (by decide +kernel) (pa_cons (pv 0) (pa_cons (pe_bltn (v := .ty "dict") (by rfl) T.f_dict (by decide +kernel) rfl) pa_nil))) (pe_and (pe_cmpR op_eq (pv 0) (pv 1) (nomark _)) (pe_one (pe_callB (cr_all rfl) (by rfl) T.f_all (by decide +kernel) (pa_cons (pe_lc (own := [("_law_key", 3)]) (g := gName 3) (tt := tYes) rfl sc_law_is.nd (pi_list (pv 1)) (blkOk_by (own := [("_law_key", 3)]) (N := n_law_is) (sc := defScope s_law_is) (by decide +kernel)) (fun _ _ _ _ _ => (pg_name (i := 3) sc_law_is.nd rfl (Or.inl rfl))) (fun _ _ _ _ _ => pts_nil) (fun _ _ _ _ _ => (pe_callD Dlaw_is (hr.mono (by first | decide | omega)) rfl pass0 (pa_cons (pe_ix (r := rIx K) ix_seq (pv 0) (pv 3) (fun _ _ => rfl)) (pa_cons (pe_ix (r := rIx K) ix_seq (pv 1) (pv 3) (fun _ _ => rfl)) pa_nil))))) pa_nil)))))))
      pss_nil)
    (pss_one (ps_ret (pe_and (pe_cmpR op_eq (pe_callB call_isi (by rfl) T.f_isinstance (by decide +kernel) (pa_cons (pv 0) (pa_cons (pe_bltn (v := .ty "bool") (by rfl) T.f_bool (by decide +kernel) rfl) pa_nil))) (pe_callB call_isi (by rfl) T.f_isinstance (by decide +kernel) (pa_cons (pv 1) (pa_cons (pe_bltn (v := .ty "bool") (by rfl) T.f_bool (by decide +kernel) rfl) pa_nil))) (nomark _)) (pe_one (pe_cmpR op_eq (pv 0) (pv 1) (nomark _)))))))), ?_⟩
    walk_at "go"
    refine ⟨sz5 (by simp), fun p hp => ?_⟩
    have g1 : Gr [] B H B (upd H p (.tup [.ty "tuple", .ty "list"])) := Gr.cell hS hp
    have hS1 := g1.bh
    walk_at "go"
    rcases rep_two it rx ry with ⟨rfl, sz⟩ | ⟨t', px, py, us, ws, ed, rfl, rfl, sq, le, lz, it', ru, rw'⟩
    · obtain ⟨n1, n2, n3⟩ := scV_shB (B := B) sz
      have sh : Sh K B x := scV_sh sz
      refine i_isiT2 hS1 sh upd_same ?_ (by decide) (by decide)
      rw [n1, n2]
      refine i_bl (b := false) ?_
      walk_at "go"
      rw [n3]
      refine iteF ?_
      walk_at "go"
      have e1 : decide (V.bl (shB B x "bool") = V.bl (shB B x "bool")) = true := by simp
      rw [e1]
      refine iteT ?_
      walk_at "go"
      refine i_eq (scV_sc sz) ?_
      have e2 : decide (x = x) = true := by simp
      rw [e2]
      exact k _ _ g1
    · have shx : Sh K B (.ref px) := by rcases sq with ⟨a, _⟩ | ⟨a, _⟩; exact .tup a; exact .lst a
      have shy : Sh K B (.ref py) := by rcases sq with ⟨_, a⟩ | ⟨_, a⟩; exact .tup a; exact .lst a
      have e1 : shB B (.ref px) "tuple" = shB B (.ref py) "tuple" := by rcases sq with ⟨a, b⟩ | ⟨a, b⟩; exact (shB_tup a).trans (shB_tup b).symm; exact (shB_lst a).trans (shB_lst b).symm
      have e2 : shB B (.ref px) "list" = shB B (.ref py) "list" := by rcases sq with ⟨a, b⟩ | ⟨a, b⟩; exact (shB_tup a).trans (shB_tup b).symm; exact (shB_lst a).trans (shB_lst b).symm
      have e3 : (shB B (.ref py) "tuple" || shB B (.ref py) "list") = true := by rcases sq with ⟨a, b⟩ | ⟨a, b⟩; rw [shB_tup b, shB_tup b]; decide; rw [shB_lst b, shB_lst b]; decide
      have sx : ∀ {H' : Hp}, Same B H' → H' px = some (.tup us) ∨ H' px = some (.lst us) := fun s => by rcases sq with ⟨a, _⟩ | ⟨a, _⟩; exact .inl (s _ _ a); exact .inr (s _ _ a)
      have sy : ∀ {H' : Hp}, Same B H' → H' py = some (.tup ws) ∨ H' py = some (.lst ws) := fun s => by rcases sq with ⟨_, a⟩ | ⟨_, a⟩; exact .inl (s _ _ a); exact .inr (s _ _ a)
      refine i_isiT2 hS1 shy upd_same ?_ (by decide) (by decide)
      rw [e3]
      refine i_bl (b := true) ?_
      walk_at "go"
      have n1 : (!decide (V.bl (shB B (.ref px) "tuple") = V.bl (shB B (.ref py) "tuple"))) = false := by rw [e1]; simp
      have n2 : (!decide (V.bl (shB B (.ref px) "list") = V.bl (shB B (.ref py) "list"))) = false := by rw [e2]; simp
      rw [n1]
      refine iteF ?_
      walk_at "go"
      rw [n2]
      refine iteF ?_
      walk_at "go"
      refine i_lenA (sx hS1) ?_
      walk_at "go"
      refine i_lenA (sy hS1) ?_
      walk_at "go"
      have e4 : decide (V.int (us.length : Int) = V.int (ws.length : Int)) = true := by rw [le]; simp
      rw [e4]
      refine iteT ?_
      walk_at "go"
      refine i_lenA (sy hS1) ?_
      walk_at "go"
      refine ⟨_, rfl, by omega, by omega, fun D hD => lc_range (lo := 0) (n := ((ws.length : Int)).toNat) (fun i H' => ∃ B', Gr [] B H B' H' ∧ B' D = none ∧ H' D = some (.lst (List.replicate i (V.bl true))))
        ⟨B, g1.trans (Gr.cell hS1 hD), bfresh hS1 hD, upd_same⟩ ?_ ?_⟩
      · rintro i H' hi ⟨B', g, bD, hDl⟩
        have hi2 : i < ws.length := by omega
        obtain ⟨a, x', ia, ux, it2, ra, da⟩ := ru.get it' (i := i) (by omega)
        obtain ⟨b, y', ib, uy, _, rb, _⟩ := rw'.get it' (i := i) hi2
        rw [ia] at ib
        cases ib
        have s2 : Same B H' := g.bb.trans g.bh
        walk_at "go"
        refine ⟨rfl, ?_⟩
        walk_at "go"
        refine i_ixA (sx s2) (atN ux) ?_
        walk_at "go"
        refine i_ixA (sy s2) (atN uy) ?_
        walk_at "go"
        refine ⟨B', x', y', a, rfl, g.bh, it2, ra.mono g.bb, rb.mono g.bb, by omega, fun B2 H2 g2 => ?_⟩
        have g3 := g.trans g2
        have b3 := g2.bnone bD hDl
        refine ⟨_, g2.keep _ _ (by simp) hDl, sz5' (by rw [List.length_replicate]; omega), B2, g3.setN (g1.fresh hD) b3, b3, ?_⟩
        rw [upd_same, List.replicate_succ']
      · rintro H' ⟨B', g, bD, hDl⟩
        walk_at "go"
        refine i_all (bs := List.replicate ((ws.length : Int)).toNat true) (SqL.of (by rw [hDl, List.map_replicate])) ?_
        have e5 : (List.replicate ((ws.length : Int)).toNat true).all id = true := by rw [List.all_eq_true]; intro b hb; exact (List.mem_replicate.mp hb).2
        rw [e5]
        exact k _ _ g
theorem is_no (T : Txt K mg) : DefOk P w K mg base CX0 1 "_law_is" p_law_is (spIs K 0) := by
  refine T.d_law_is.ok sc_law_is (fun _ _ _ _ _ _ us hl => match us, hl with | [_, _], _ => rfl) (fun vs H Q E h => ?_) (fun f cdv A outer s H vs Q E hr h => ?_)
  · obtain ⟨B, x, y, t, rfl, _⟩ := h
    rfl
  · obtain ⟨B, x, y, t, rfl, hS, it, rx, ry, hd, k⟩ := h
    exact absurd hd (Nat.not_lt_zero _)
theorem ok_is (T : Txt K mg) : ∀ n, DefOk P w K mg base CX0 (n + 1) "_law_is" p_law_is (spIs K n)
  | 0 => is_no T
  | n + 1 => is_step (ok_is T n) T
end

end K06
set_option maxRecDepth 100000
set_option maxHeartbeats 2000000
namespace K06
open PySem PySem.Spec PyProof.Rows L2 Us
def absI (x : Int) : Int := if x < 0 then -x else x
theorem absI_nn (x : Int) : 0 ≤ absI x := by unfold absI; split <;> omega
def spHand (K : PySem.W.Frag) : Sp := fun vs H Q _ => ∃ (a : Addr) (ns : List Int), vs = [.ref a] ∧ SqL K H a (ns.map V.int) ∧ ns.length ≤ 63 ∧ ∀ B' H' p, Gr [] H H B' H' → H p = none → HandAt B' H' p → Q (.ref p) H'
def spSome (K : PySem.W.Frag) : Sp := fun vs H Q _ => ∃ B a p xs, vs = [.ref a, .ref p] ∧ Same B H ∧ HandAt B H a ∧ B p = some (.lst xs) ∧ 0 < xs.length ∧ xs.length < 1000000 ∧ ∀ H' x, Gr [a] B H B H' → HandAt B H' a → x ∈ xs → Q x H'
def spFlag (K : PySem.W.Frag) : Sp := fun vs H Q _ => ∃ a b, vs = [.bl a, .bl b] ∧ Q (.bl (a == b)) H
def spDeep (K : PySem.W.Frag) : Sp := fun vs H Q _ => ∃ B k, vs = [.int k] ∧ Same B H ∧ ∀ B' H' v, Gr [] B H B' H' → RepD K B' .odd v → Q v H'
def spKind (K : PySem.W.Frag) (n : Nat) : Sp := fun vs H Q _ => ∃ (B : Hp) (a : Addr) (m : Nat), vs = [.ref a, .int (m : Int)] ∧ m < n ∧ Same B H ∧ HandAt B H a ∧ ∀ B' H' v d, Gr [a] B H B' H' → HandAt B' H' a → RepD K B' d v → d.good = true → d.dep ≤ m → Q v H'
def spEnds (K : PySem.W.Frag) : Sp := fun vs H Q _ => ∃ B v d, vs = [v] ∧ Same B H ∧ RepD K B d v ∧ d.siz ≤ 100000 ∧ d.good = true ∧ ∀ B' H' p l xs v', Gr [] B H B' H' → B' p = some (.tup [.ref l, v']) → B' l = some (.lst xs) → RepL K B' xs d.lefts → RepD K B' d.last v' → Q (.ref p) H'
section
variable {P : Program} {w : World} {K : PySem.W.Frag} {mg : Str → Option Value} {base : Heap}
theorem ok_hand (T : Txt K mg) : DefOk P w K mg base CX0 1 "_law_hand" p_law_hand (spHand K) := by
  refine T.d_law_hand.ok sc_law_hand (fun _ _ _ _ _ _ us hl => match us, hl with | [_], _ => rfl) (fun vs H Q E h => ?_) (fun f cdv A outer s H vs Q E hr h => ?_)
  · obtain ⟨a, ns, rfl, _⟩ := h
    rfl
  · obtain ⟨a, ns, rfl, hL, hn, k⟩ := h
    refine ⟨_, PSs.nox (pss_cons (ps_setLc (i := 1) (own := [("_law_cell", 2)]) (g := gName 2) (tt := tYes) rfl sc_law_hand.nd rfl rfl (sw_true rfl rfl rfl (by decide +kernel)) (pi_list (pe_slice sl_list (pv 0) po_none (po_some pe_int))) (blkOk_by (own := [("_law_cell", 2)]) (N := n_law_hand) (sc := defScope s_law_hand) (by decide +kernel)) (fun _ _ _ _ _ => (pg_name (i := 2) sc_law_hand.nd rfl (Or.inl rfl))) (fun _ _ _ _ _ => pts_nil) (fun _ _ _ _ _ => (pe_callB call_absU (by rfl) T.f_abs (by decide +kernel) (pa_cons (pe_callTy call_intU (by rfl) T.f_int (by decide +kernel) (pa_cons (pv 2) pa_nil)) pa_nil))))
    (pss_one (ps_ret (pe_lst (pa_cons (pv 1) (pa_cons pe_int (pa_cons pe_int (pa_cons (pe_op op_add pe_int (pe_callB call_lenU (by rfl) T.f_len (by decide +kernel) (pa_cons (pv 1) pa_nil))) (pa_cons pe_int pa_nil))))))))), ?_⟩
    have S0 : Same H H := Same.refl H
    walk_at "go"
    refine ⟨a, _, rfl, hL, fun q hq => ?_⟩
    have ec : ∃ ms : List Int, cutV (ns.map V.int) none (some 63) = ms.map V.int ∧ ms.length ≤ 63 := by
      unfold cutV
      rw [← List.map_drop, ← List.map_take]
      refine ⟨_, rfl, ?_⟩
      rw [List.length_take, List.length_drop]
      omega
    obtain ⟨ms, ec, hms⟩ := ec
    rw [ec]
    have g1 : Gr [] H H (upd H q (.lst (ms.map V.int))) (upd H q (.lst (ms.map V.int))) := Gr.new S0 hq
    refine ⟨q, rfl, ⟨_, SqL.of upd_same⟩, fun D hD => lc_list (K := K) (a := q) (xs := ms.map V.int) (fun i H' => Gr [] H H (upd H q (.lst (ms.map V.int))) H' ∧ H' D = some (.lst (((ms.take i).map absI).map V.int)))
      ⟨g1.trans (Gr.cell g1.bh hD), upd_same⟩ (fun i H' _ h => SqL.of (h.1.bh _ _ upd_same)) ?_ ?_⟩
    · rintro i x H' hx ⟨g, hDl⟩
      obtain ⟨z, hz, rfl⟩ : ∃ z, ms[i]? = some z ∧ x = V.int z := by
        rw [List.getElem?_map] at hx
        cases e : ms[i]? with
        | none => rw [e] at hx; cases hx
        | some z => rw [e] at hx; exact ⟨z, rfl, (Option.some.inj hx).symm⟩
      walk_at "go"
      refine ⟨rfl, ?_⟩
      walk_at "go"
      refine i_abs ?_
      have hi : i < ms.length := (List.getElem?_eq_some_iff.mp hz).1
      have bD := bfresh g1.bh hD
      refine ⟨_, hDl, sz5' (by simp only [List.length_map, List.length_take]; omega), g.setN (g1.fresh hD) bD, ?_⟩
      rw [upd_same, List.take_add_one, hz]
      simp [absI]
    · rintro H' ⟨g, hDl⟩
      rw [show (ms.map V.int).length = ms.length by simp, List.take_length] at hDl
      have bD := bfresh g1.bh hD
      have g2 := g.keepN (g1.fresh hD) hDl bD
      walk_at "go"
      refine i_lenL (SqL.of hDl) ?_
      walk_at "go"
      refine ⟨sz5 (by simp), fun p hp => ?_⟩
      have g3 := g2.trans (Gr.cell (o := .lst [.ref D, .int 0, .int 0, .int (1 + (((ms.map absI).map V.int).length : Int)), .int 0]) g2.bh hp)
      refine k _ _ p g3 (g2.fresh hp) ⟨bfresh g2.bh hp, D, ms.map absI, 0, 0, _, 0, upd_same, upd_same, ?_, by decide, by decide, by omega, ?_, by decide⟩
      · intro x hx
        obtain ⟨y, _, rfl⟩ := List.mem_map.mp hx
        exact absI_nn y
      · simp only [List.length_map]; omega
theorem ok_some (T : Txt K mg) (Dlaw_draw : DefOk P w K mg base CX0 1 "_law_draw" p_law_draw (spDraw K)) : DefOk P w K mg base CX0 2 "_law_some" p_law_some (spSome K) := by
  refine T.d_law_some.ok sc_law_some (fun _ _ _ _ _ _ us hl => match us, hl with | [_, _], _ => rfl) (fun vs H Q E h => ?_) (fun f cdv A outer s H vs Q E hr h => ?_)
  · obtain ⟨B, a, p, xs, rfl, _⟩ := h
    rfl
  · obtain ⟨B, a, p, xs, rfl, hS, hA, hp, h0, h1, k⟩ := h
    refine ⟨_, PSs.nox (pss_one (ps_ret (pe_ix ix_list (pv 1) (pe_callD Dlaw_draw (hr.mono (by first | decide | omega)) rfl pass0 (pa_cons (pv 0) (pa_cons (pe_callB call_lenU (by rfl) T.f_len (by decide +kernel) (pa_cons (pv 1) pa_nil)) pa_nil))) (fun _ _ => rfl)))), ?_⟩
    walk_at "go"
    refine i_lenL (SqL.of (hS _ _ hp)) ?_
    walk_at "go"
    refine ⟨B, a, _, rfl, by omega, by omega, hS, hA, fun H' d g hA' d0 d1 => ?_⟩
    obtain ⟨j, rfl⟩ : ∃ j : Nat, d = (j : Int) := ⟨d.toNat, by omega⟩
    have hj : j < xs.length := by omega
    refine i_ixL (SqL.of (g.bh _ _ hp)) (atI_nat (List.getElem?_eq_getElem hj)) ?_
    exact k _ _ g hA' (List.getElem_mem hj)
theorem ok_flag (T : Txt K mg) : DefOk P w K mg base CX0 1 "_law_flag" p_law_flag (spFlag K) := by
  refine T.d_law_flag.ok sc_law_flag (fun _ _ _ _ _ _ us hl => match us, hl with | [_, _], _ => rfl) (fun vs H Q E h => ?_) (fun f cdv A outer s H vs Q E hr h => ?_)
  · obtain ⟨a, b, rfl, _⟩ := h
    rfl
  · obtain ⟨a, b, rfl, k⟩ := h
    refine ⟨_, PSs.nox (pss_one (ps_ret (pe_and (pe_callB call_isi (by rfl) T.f_isinstance (by decide +kernel) (pa_cons (pv 0) (pa_cons (pe_bltn (v := .ty "bool") (by rfl) T.f_bool (by decide +kernel) rfl) pa_nil))) (pe_one (pe_cmpR op_eq (pv 0) (pv 1) (nomark _)))))), ?_⟩
    have S0 : Same H H := Same.refl H
    have sh : Sh K H (.bl a) := .bl a
    walk_at "go"
    have e : shB H (.bl a) "bool" = true := by show ("bool" == "bool" || "bool" == "int") = true; decide
    rw [e]
    refine iteT ?_
    walk_at "go"
    rw [dB]
    exact k
theorem odd_tup {B : Hp} {p : Addr} {us : List V} (h : B p = some (.tup us)) (hn : us.length ≠ 2) : RepD K B .odd (.ref p) := ⟨.tup h, by rw [isPr_tup h]; simpa using hn, rfl⟩
theorem odd_lst {B : Hp} {p : Addr} {us : List V} (h : B p = some (.lst us)) : RepD K B .odd (.ref p) := ⟨.lst h, isPr_no (by rw [shB_lst h]; decide), rfl⟩
theorem ok_deep (T : Txt K mg) : DefOk P w K mg base CX0 1 "_law_deep" p_law_deep (spDeep K) := by
  refine T.d_law_deep.ok sc_law_deep (fun _ _ _ _ _ _ us hl => match us, hl with | [_], _ => rfl) (fun vs H Q E h => ?_) (fun f cdv A outer s H vs Q E hr h => ?_)
  · obtain ⟨B, k, rfl, _⟩ := h
    rfl
  · obtain ⟨B, n, rfl, hS, k⟩ := h
    refine ⟨_, PSs.nox (pss_cons (ps_set (i := 1) sc_law_deep.nd rfl (Or.inl rfl) pe_non)
    (pss_cons (ps_for PassesOwn.never rfl (pi_range1 (by rfl) T.f_range (pa_cons pe_int pa_nil)) (pg_name (i := 2) sc_law_deep.nd rfl (Or.inl rfl))
      (pss_one (ps_set (i := 1) sc_law_deep.nd rfl (Or.inl rfl) (pe_ifExp (pt_cmpR op_eq (pv 0) pe_int (nomark _)) (pe_lst (pa_cons (pv 1) pa_nil)) (pe_tup (pa_cons (pv 1) pa_nil))))))
    (pss_one (ps_ret (pv 1))))), ?_⟩
    walk_at "go"
    refine ⟨36, rfl, by decide, by decide, for_range (lo := 0) (n := 36) (fun i σ H' => ∃ B' v v1, σ = [some (.int n), some v, v1] ∧ Gr [] B H B' H' ∧ RepD K B' .odd v) ⟨B, .non, none, rfl, Gr.refl hS, .non, rfl, rfl⟩ ?_ ?_⟩
    · rintro i σ H' hi ⟨B', v, v1, rfl, g, rd⟩
      walk_at "go"
      rw [dI]
      refine i_case (fun c => ?_) (fun c => ?_)
      · walk_at "go"
        refine ⟨sz5 (by simp), fun p hp => ?_⟩
        walk_at "go"
        exact ⟨_, .ref p, _, rfl, g.trans (Gr.new g.bh hp), odd_lst upd_same⟩
      · walk_at "go"
        refine ⟨sz5 (by simp), fun p hp => ?_⟩
        walk_at "go"
        exact ⟨_, .ref p, _, rfl, g.trans (Gr.new g.bh hp), odd_tup upd_same (by simp)⟩
    · rintro σ H' ⟨B', v, v1, rfl, g, rd⟩
      walk_at "go"
      exact k _ _ _ g rd
theorem kind_no (T : Txt K mg) : DefOk P w K mg base CX0 1 "_law_kind" p_law_kind (spKind K 0) := by
  refine T.d_law_kind.ok sc_law_kind (fun _ _ _ _ _ _ us hl => match us, hl with | [_, _], _ => rfl) (fun vs H Q E h => ?_) (fun f cdv A outer s H vs Q E hr h => ?_)
  · obtain ⟨B, a, m, rfl, _⟩ := h
    rfl
  · obtain ⟨B, a, m, rfl, hm, _⟩ := h
    exact absurd hm (Nat.not_lt_zero _)
theorem kind_step {n : Nat} (Dlaw_kind : DefOk P w K mg base CX0 (n + 1) "_law_kind" p_law_kind (spKind K n)) (T : Txt K mg) (Dlaw_draw : DefOk P w K mg base CX0 1 "_law_draw" p_law_draw (spDraw K)) : DefOk P w K mg base CX0 (n + 2) "_law_kind" p_law_kind (spKind K (n + 1)) := by
  refine T.d_law_kind.ok sc_law_kind (fun _ _ _ _ _ _ us hl => match us, hl with | [_, _], _ => rfl) (fun vs H Q E h => ?_) (fun f cdv A outer s H vs Q E hr h => ?_)
  · obtain ⟨B, a, m, rfl, _⟩ := h
    rfl
  · obtain ⟨B, a, m, rfl, hm, hS, hA, k⟩ := h
    refine ⟨_, PSs.nox (pss_cons (ps_if (PW.pt (pw_or (pt_cmpR op_eq (pv 1) pe_int (nomark _)) (pw_or1 (pt_cmpR op_eq (pe_callD Dlaw_draw (hr.mono (by first | decide | omega)) rfl pass0 (pa_cons (pv 0) (pa_cons pe_int pa_nil))) pe_int (nomark _)))))
      (pss_one (ps_ret (pe_callD Dlaw_draw (hr.mono (by first | decide | omega)) rfl pass0 (pa_cons (pv 0) (pa_cons (pe_op op_add pe_int (pe_callTy call_intU (by rfl) T.f_int (by decide +kernel) (pa_cons (pe_cmpR op_eq (pe_callD Dlaw_draw (hr.mono (by first | decide | omega)) rfl pass0 (pa_cons (pv 0) (pa_cons pe_int pa_nil))) pe_int (nomark _)) pa_nil))) pa_nil)))))
      pss_nil)
    (pss_one (ps_ret (pe_tup (pa_cons (pe_callD Dlaw_kind (hr.mono (by first | decide | omega)) rfl pass0 (pa_cons (pv 0) (pa_cons (pe_op op_sub (pv 1) pe_int) pa_nil))) (pa_cons (pe_callD Dlaw_kind (hr.mono (by first | decide | omega)) rfl pass0 (pa_cons (pv 0) (pa_cons (pe_op op_sub (pv 1) pe_int) pa_nil))) pa_nil)))))), ?_⟩
    have leaf : ∀ H', Gr [a] B H B H' → HandAt B H' a → tRet (tCall (spDraw K) [] E0 (tCons (tVar 0) (tCons (tOp (rI0 fun i j => .int (i + j)) (tC (.int 2)) (tCB rIntU (tCons (tOp rEq (tCall (spDraw K) [] E0 (tCons (tVar 0) (tCons (tC (.int 8)) tNil))) (tC (.int 0))) tNil))) tNil)))
        { nx := fun _ H' => Q .non H', rt := Q } (L2.start n_law_kind [.ref a, .int (m : Int)]) H' := by
      intro H1 g1 hA1
      walk_at "go"
      refine ⟨B, a, 8, rfl, by decide, by decide, g1.bh, hA1, fun H2 d2 g2 hA2 p0 p1 => ?_⟩
      walk_at "go"
      have hb : ∀ b : Bool, 2 ≤ 2 + (if b then (1 : Int) else 0) ∧ 2 + (if b then (1 : Int) else 0) ≤ 3 := by decide
      have hb1 := hb (decide (V.int d2 = V.int 0))
      refine ⟨B, a, _, rfl, by omega, by omega, g2.bh, hA2, fun H3 d3 g3 hA3 q0 q1 => ?_⟩
      exact k _ _ _ (.int d3) ((g1.trans g2).trans g3) hA3 rfl (by simp only [Dd.good]; simp; omega) (Nat.zero_le _)
    walk_at "go"
    rw [dI]
    refine i_case (fun c => ?_) (fun c => ?_)
    · exact leaf H (Gr.refl hS) hA
    · have hm0 : m ≠ 0 := by have := of_decide_eq_false c; omega
      walk_at "go"
      refine ⟨B, a, 3, rfl, by decide, by decide, hS, hA, fun H1 d1 g1 hA1 p0 p1 => ?_⟩
      walk_at "go"
      rw [dI]
      refine i_case (fun c => ?_) (fun c => ?_)
      · exact leaf H1 g1 hA1
      · walk_at "go"
        have em : (m : Int) - 1 = ((m - 1 : Nat) : Int) := by omega
        refine ⟨B, a, m - 1, by rw [em]; rfl, by omega, g1.bh, hA1, fun B2 H2 x a' g2 hA2 ra ga da => ?_⟩
        walk_at "go"
        refine ⟨B2, a, m - 1, by rw [em]; rfl, by omega, g2.bh, hA2, fun B3 H3 y b' g3 hA3 rb gb db => ?_⟩
        walk_at "go"
        refine ⟨sz5 (by simp), fun p hp => ?_⟩
        have g4 := ((g1.trans g2).trans g3).trans (Gr.new (o := .tup [x, y]) g3.bh hp)
        have s4 := Same.new (o := .tup [x, y]) (bfresh g3.bh hp)
        refine k _ _ _ (.pr a' b') g4 (hA3.mono (Gr.new (ms := []) (o := .tup [x, y]) g3.bh hp) (by simp)) ⟨p, x, y, rfl, upd_same, (ra.mono g3.bb).mono s4, rb.mono s4⟩ ?_ ?_
        · simp only [Dd.good, ga, gb]; rfl
        · simp only [Dd.dep]; omega
theorem ok_kind (T : Txt K mg) (Dlaw_draw : DefOk P w K mg base CX0 1 "_law_draw" p_law_draw (spDraw K)) : ∀ n, DefOk P w K mg base CX0 (n + 1) "_law_kind" p_law_kind (spKind K n)
  | 0 => kind_no T
  | n + 1 => kind_step (ok_kind T Dlaw_draw n) T Dlaw_draw
end

end K06
set_option maxRecDepth 100000
set_option maxHeartbeats 2000000
namespace K06
open PySem PySem.Spec PyProof.Rows L2 Us
def cntL (ds : List Dd) : Nat := (ds.map Dd.cnt).sum
/-- the look by layers: what is left of this layer, k deep, the next layer, letters so far -/
def Ok2 (k : Nat) (rem later : List Dd) (n : Nat) : Prop := (∀ d ∈ rem, d.good = true ∧ k + d.dep ≤ 30) ∧ (∀ d ∈ later, d.good = true ∧ k + 1 + d.dep ≤ 30) ∧ n + cntL rem + cntL later ≤ 60
theorem cntL_cons (d : Dd) (r : List Dd) : cntL (d :: r) = d.cnt + cntL r := by simp [cntL]
theorem cntL_append (a b : List Dd) : cntL (a ++ b) = cntL a + cntL b := by simp [cntL]
theorem sizL_cons (d : Dd) (r : List Dd) : sizL (d :: r) = d.siz + sizL r := by simp [sizL]
theorem sizL_append (a b : List Dd) : sizL (a ++ b) = sizL a + sizL b := by simp [sizL]
theorem Ok2_one (d : Dd) : Ok2 0 [d] [] 0 ↔ d.okK = true := by
  unfold Ok2 Dd.okK cntL
  simp
  constructor
  · rintro ⟨⟨a, b⟩, c⟩; exact ⟨a, b, c⟩
  · rintro ⟨a, b, c⟩; exact ⟨⟨a, b⟩, c⟩
theorem Ok2_pr (k : Nat) (a b : Dd) (r l : List Dd) (n : Nat) : Ok2 k r (l ++ [a, b]) n ↔ Ok2 k (.pr a b :: r) l n := by
  unfold Ok2
  rw [cntL_append, cntL_cons (.pr a b), cntL_cons a, cntL_cons b]
  simp only [List.mem_cons, List.mem_append, forall_eq_or_imp, Dd.good, Dd.dep, Dd.cnt, Bool.and_eq_true, cntL, List.map_nil, List.sum_nil]
  constructor
  · rintro ⟨h1, h2, h3⟩
    have ha := h2 a (.inr (.inl rfl))
    have hb := h2 b (.inr (.inr (.inl rfl)))
    exact ⟨⟨⟨⟨ha.1, hb.1⟩, by omega⟩, h1⟩, fun d hd => h2 d (.inl hd), by omega⟩
  · rintro ⟨⟨⟨⟨h1, h2⟩, h3⟩, h4⟩, h5, h6⟩
    refine ⟨h4, fun d hd => ?_, by omega⟩
    rcases hd with hd | hd | hd | hd
    · exact h5 d hd
    · subst hd; exact ⟨h1, by omega⟩
    · subst hd; exact ⟨h2, by omega⟩
    · cases hd
theorem Ok2_int (k : Nat) (i : Int) (r l : List Dd) (n : Nat) (hk : k ≤ 30) (h0 : 0 ≤ i) (h1 : i ≤ 25) : Ok2 k r l (n + 1) ↔ Ok2 k (.int i :: r) l n := by
  unfold Ok2
  rw [cntL_cons]
  simp only [List.mem_cons, forall_eq_or_imp, Dd.good, Dd.dep, Dd.cnt]
  constructor
  · rintro ⟨h2, h3, h4⟩
    exact ⟨⟨⟨by simp [h0, h1], by omega⟩, h2⟩, h3, by omega⟩
  · rintro ⟨⟨_, h2⟩, h3, h4⟩
    exact ⟨h2, h3, by omega⟩
theorem Ok2_bad (k : Nat) {d : Dd} (r l : List Dd) (n : Nat) (h : d.good = false) : ¬ Ok2 k (d :: r) l n := by
  rintro ⟨h1, _⟩
  have := (h1 d List.mem_cons_self).1
  rw [h] at this
  cases this
theorem Ok2_next (k : Nat) (l : List Dd) (n : Nat) : Ok2 k [] l n ↔ Ok2 (k + 1) l [] n := by
  unfold Ok2
  simp [cntL]
theorem no_ok {d : Dd} {p : Prop} (ok : p ↔ d.okK = true) (h : ¬ p) : d.okK = false := by
  cases e : d.okK with
  | false => rfl
  | true => exact absurd (ok.mpr e) h
section
variable {P : Program} {w : World} {K : PySem.W.Frag} {mg : Str → Option Value} {base : Heap}
theorem ok_ends (T : Txt K mg) : DefOk P w K mg base CX0 1 "_law_ends" p_law_ends (spEnds K) := by
  refine T.d_law_ends.ok sc_law_ends (fun _ _ _ _ _ _ us hl => match us, hl with | [_], _ => rfl) (fun vs H Q E h => ?_) (fun f cdv A outer s H vs Q E hr h => ?_)
  · obtain ⟨B, v, d, rfl, _⟩ := h
    rfl
  · obtain ⟨B, v, d, rfl, hS, rd, hz, gd, k⟩ := h
    refine ⟨_, PSs.nox (pss_cons (ps_set (i := 1) sc_law_ends.nd rfl (Or.inl rfl) (pe_lst pa_nil))
    (pss_cons (ps_while PassesOwn.never (pt_val (pe_callB call_isi (by rfl) T.f_isinstance (by decide +kernel) (pa_cons (pv 0) (pa_cons (pe_bltn (v := .ty "tuple") (by rfl) T.f_tuple (by decide +kernel) rfl) pa_nil))))
      (pss_cons (ps_expr (pe_bm PySem.F.plainAttrs_list PySem.F.slot_list_append PySem.F.type_list_append mt_append (pv 1) (pa_cons (pe_ix ix_tup (pv 0) pe_int (fun _ _ => rfl)) pa_nil)))
      (pss_one (ps_set (i := 0) sc_law_ends.nd rfl (Or.inl rfl) (pe_ix ix_tup (pv 0) pe_int (fun _ _ => rfl))))))
    (pss_one (ps_ret (pe_tup (pa_cons (pv 1) (pa_cons (pv 0) pa_nil))))))), ?_⟩
    walk_at "go"
    refine ⟨sz5 (by simp), fun l hl => ?_⟩
    walk_at "go"
    have g1 : Gr [] B H B (upd H l (.lst [])) := Gr.cell hS hl
    have bl := bfresh hS hl
    refine i_while (fun m σ H' => ∃ (d' : Dd) (v' : V) (xs : List V) (ds : List Dd), m = d'.siz ∧ σ = [some v', some (.ref l)] ∧ Gr [] B H B H' ∧ H' l = some (.lst xs) ∧ RepD K B d' v' ∧ d'.good = true ∧ RepL K B xs ds ∧ ds ++ d'.lefts = d.lefts ∧ d'.last = d.last ∧ ds.length + d'.siz ≤ d.siz) d.siz
      ⟨d, v, [], [], rfl, rfl, g1, upd_same, rd, gd, True.intro, rfl, rfl, by simp⟩ ?_
    rintro m σ H' ⟨d', v', xs, ds, rfl, rfl, g, hL, hd, gd', rl, el, ee, hz'⟩
    have sh := hd.sh
    have hS' := g.bh
    have zl := rl.len
    walk_at "go"
    cases d' with
    | pr a b =>
      obtain ⟨q, x, y, rfl, hq, hx, hy⟩ := hd
      rw [tT hq]
      refine iteT ?_
      refine i_turn ?_
      walk_at "go"
      refine ⟨tyL hL, ?_⟩
      walk_at "go"
      refine i_ixT (SqT.of (hS' _ _ hq)) atI0 ?_
      walk_at "go"
      simp only [Dd.siz] at hz'
      refine i_app hL (sz5' (by omega)) ?_
      have g3 := g.setN (o := .lst (xs ++ [x])) hl bl
      walk_at "go"
      refine i_ixT (SqT.of (g3.bh _ _ hq)) atI1 ?_
      walk_at "go"
      simp only [Dd.good, Bool.and_eq_true] at gd'
      refine ⟨b.siz, by simp only [Dd.siz]; omega, b, y, xs ++ [x], ds ++ [a], rfl, rfl, g3, upd_same, hy, gd'.2, rl.append ⟨hx, True.intro⟩, ?_, ee, ?_⟩
      · rw [← el, List.append_assoc]; rfl
      · simp only [List.length_append, List.length_singleton]; omega
    | int i =>
      cases hd
      rw [tI]
      refine iteF ?_
      walk_at "go"
      refine ⟨sz5 (by simp), fun p hp => ?_⟩
      have g2 := g.keepN hl hL bl
      have s1 : Same B (upd B l (.lst xs)) := Same.new bl
      have g3 := g2.trans (Gr.new (o := .tup [.ref l, .int i]) g2.bh hp)
      have s2 := Same.new (o := .tup [.ref l, .int i]) (bfresh g2.bh hp)
      refine k _ _ p l xs (.int i) g3 upd_same (s2 _ _ upd_same) ?_ ?_
      · rw [← el]
        show RepL K _ xs (ds ++ [])
        rw [List.append_nil]
        exact (rl.mono s1).mono s2
      · rw [← ee]; rfl
    | odd => cases gd'
theorem ok_law_is_kind (T : Txt K mg) : DefOk P w K mg base CX0 1 "_law_is_kind" p_law_is_kind (spIsKind K) := by
  refine T.d_law_is_kind.ok sc_law_is_kind (fun _ _ _ _ _ _ us hl => match us, hl with | [_], _ => rfl) (fun vs H Q E h => ?_) (fun f cdv A outer s H vs Q E hr h => ?_)
  · obtain ⟨B, v, d, rfl, _⟩ := h
    rfl
  · obtain ⟨B, v, d, rfl, hS, rd, hz, k⟩ := h
    refine ⟨_, PSs.nox (pss_cons (ps_set (i := 1) sc_law_is_kind.nd rfl (Or.inl rfl) (pe_lst (pa_cons (pv 0) pa_nil)))
    (pss_cons (ps_set (i := 2) sc_law_is_kind.nd rfl (Or.inl rfl) pe_int)
    (pss_cons (ps_for PassesOwn.never rfl (pi_range1 (by rfl) T.f_range (pa_cons pe_int pa_nil)) (pg_name (i := 3) sc_law_is_kind.nd rfl (Or.inl rfl))
      (pss_cons (ps_set (i := 4) sc_law_is_kind.nd rfl (Or.inl rfl) (pe_lst pa_nil))
      (pss_cons (ps_for PassesOwn.never rfl (pi_list (pv 1)) (pg_name (i := 5) sc_law_is_kind.nd rfl (Or.inl rfl))
        (pss_one (ps_if (PW.pt (pw_and (pt_val (pe_callB call_isi (by rfl) T.f_isinstance (by decide +kernel) (pa_cons (pv 5) (pa_cons (pe_bltn (v := .ty "tuple") (by rfl) T.f_tuple (by decide +kernel) rfl) pa_nil)))) (pw_and1 (pt_cmpR op_eq (pe_callB call_lenU (by rfl) T.f_len (by decide +kernel) (pa_cons (pv 5) pa_nil)) pe_int (nomark _)))))
          (pss_one (ps_expr (pe_bm PySem.F.plainAttrs_list PySem.F.slot_list_extend PySem.F.type_list_extend mt_extendT (pv 4) (pa_cons (pv 5) pa_nil))))
          (pss_one (ps_if (PW.pt (pw_or (pt_not (pt_val (pe_callB call_isi (by rfl) T.f_isinstance (by decide +kernel) (pa_cons (pv 5) (pa_cons (pe_bltn (v := .ty "int") (by rfl) T.f_int (by decide +kernel) rfl) pa_nil))))) (pw_or (pt_val (pe_callB call_isi (by rfl) T.f_isinstance (by decide +kernel) (pa_cons (pv 5) (pa_cons (pe_bltn (v := .ty "bool") (by rfl) T.f_bool (by decide +kernel) rfl) pa_nil)))) (pw_or1 (pt_not (pt_chain op_le op_le pe_int (pv 5) pe_int))))))
            (pss_one (ps_ret pe_bl))
            (pss_one (ps_set (i := 2) sc_law_is_kind.nd rfl (Or.inl rfl) (pe_op op_add (pv 2) pe_int))))))))
      (pss_one (ps_set (i := 1) sc_law_is_kind.nd rfl (Or.inl rfl) (pv 4))))))
    (pss_one (ps_ret (pe_and (pe_cmpR op_eq (pe_callB call_lenU (by rfl) T.f_len (by decide +kernel) (pa_cons (pv 1) pa_nil)) pe_int (nomark _)) (pe_one (pe_cmpR op_le (pv 2) pe_int (nomark _))))))))), ?_⟩
    walk_at "go"
    refine ⟨sz5 (by simp), fun l0 hl0 => ?_⟩
    walk_at "go"
    have g1 : Gr [] B H B (upd H l0 (.lst [v])) := Gr.cell hS hl0
    refine ⟨31, rfl, by decide, by decide, for_range (lo := 0) (n := 31) (fun i σ H' => ∃ (l : Addr) (xs : List V) (ds : List Dd) (n : Nat) (v1 v2 v3 : Option V), σ = [some v, some (.ref l), some (.int (n : Int)), v1, v2, v3] ∧ Gr [] B H B H' ∧ B l = none ∧ H l = none ∧
      H' l = some (.lst xs) ∧ RepL K B xs ds ∧ (Ok2 i ds [] n ↔ d.okK = true) ∧ sizL ds ≤ d.siz) ⟨l0, [v], [d], 0, none, none, none, rfl, g1, bfresh hS hl0, hl0, upd_same, ⟨rd, True.intro⟩, Ok2_one d, by simp [sizL]⟩ ?_ ?_⟩
    · rintro i σ H' hi ⟨l, xs, ds, n, v1, v2, v3, rfl, g, bl, nl, hL, rl, ok, hz'⟩
      have zl := rl.len
      walk_at "go"
      refine ⟨sz5 (by simp), fun m hm => ?_⟩
      have g2 := g.trans (Gr.cell (o := .lst []) g.bh hm)
      have nm := g.fresh hm
      have bm := bfresh g.bh hm
      have hlm : l ≠ m := ne_of_none hL hm
      walk_at "go"
      refine ⟨l, rfl, ⟨_, SqL.of ((upd_ne hlm).trans hL)⟩, for_list (K := K) (a := l) (xs := xs) (fun j σ H' => ∃ (ys : List V) (es : List Dd) (n' : Nat) (v3 : Option V), σ = [some v, some (.ref l), some (.int (n' : Int)), some (.int (0 + (i : Int))), some (.ref m), v3] ∧ Gr [] B H B H' ∧
        H' l = some (.lst xs) ∧ H' m = some (.lst ys) ∧ RepL K B ys es ∧ (Ok2 i (ds.drop j) es n' ↔ d.okK = true) ∧ sizL (ds.drop j) + sizL es ≤ d.siz)
        ⟨[], [], n, v3, rfl, g2, (upd_ne hlm).trans hL, upd_same, True.intro, ok, by simp [sizL] at *; omega⟩ (fun j σ H' _ ⟨_, _, _, _, _, _, h, _⟩ => SqL.of h) ?_ ?_⟩
      · rintro j x σ H1 hx ⟨ys, es, n', v3, rfl, g3, hL1, hM1, re, ok1, hz1⟩
        obtain ⟨d', hd', rd'⟩ := rl.get hx
        have hj : j < ds.length := (List.getElem?_eq_some_iff.mp hd').1
        have ed : ds.drop j = d' :: ds.drop (j + 1) := by
          rw [List.drop_eq_getElem_cons hj, (List.getElem?_eq_some_iff.mp hd').2]
        rw [ed] at ok1 hz1
        rw [sizL_cons] at hz1
        have zd := d'.siz_pos
        have ze := len_sizL es
        have zre := re.len
        have hS1 := g3.bh
        have sh := rd'.sh
        have bad : d'.good = false → d.okK = false := fun e => no_ok ok1 (Ok2_bad _ _ _ _ e)
        walk_at "go"
        cases d' with
        | pr a b =>
          obtain ⟨q, x1, y1, rfl, hq, hx1, hy1⟩ := rd'
          rw [tT hq]
          refine iteT ?_
          walk_at "go"
          refine i_lenT (SqT.of (hS1 _ _ hq)) ?_
          walk_at "go"
          rw [dI]
          refine iteT ?_
          walk_at "go"
          refine ⟨tyL hM1, ?_⟩
          walk_at "go"
          refine i_extT hM1 (SqT.of (hS1 _ _ hq)) (sz5 (by simp only [List.length_cons, List.length_nil]; omega)) ?_
          refine ⟨ys ++ [x1, y1], es ++ [a, b], n', _, rfl, g3.setN nm bm, (upd_ne hlm).trans hL1, upd_same, re.append ⟨hx1, hy1, True.intro⟩, (Ok2_pr i a b _ es n').trans ok1, ?_⟩
          rw [sizL_append]
          simp only [sizL, List.map_cons, List.map_nil, List.sum_cons, List.sum_nil, Dd.siz] at *
          omega
        | int z =>
          cases rd'
          rw [tI]
          refine iteF ?_
          walk_at "go"
          have e1 : shB B (.int z) "int" = true := by show ("int" == "int") = true; decide
          have e2 : shB B (.int z) "bool" = false := by show ("bool" == "int") = false; decide
          rw [e1]
          refine iteF ?_
          walk_at "go"
          rw [e2]
          refine iteF ?_
          walk_at "go"
          refine i_case (fun c1 => ?_) (fun c1 => ?_)
          · have h0 : 0 ≤ z := of_decide_eq_true c1
            walk_at "go"
            refine i_case (fun c2 => ?_) (fun c2 => ?_)
            · have h1 : ¬ z ≤ 25 := of_decide_eq_false (nT c2)
              have kf := bad (by simp only [Dd.good]; rw [decide_eq_false h1, Bool.and_false])
              walk_at "go"
              rw [← kf]
              exact k _ _ g3
            · have h1 : z ≤ 25 := of_decide_eq_true (nF c2)
              walk_at "go"
              refine ⟨ys, es, n' + 1, _, rfl, g3, hL1, hM1, re, (Ok2_int i z _ es n' (by omega) h0 h1).trans ok1, by omega⟩
          · have h0 : ¬ 0 ≤ z := of_decide_eq_false c1
            have kf := bad (by simp only [Dd.good]; rw [decide_eq_false h0, Bool.false_and])
            walk_at "go"
            refine iteT ?_
            walk_at "go"
            rw [← kf]
            exact k _ _ g3
        | odd =>
          have kf := bad rfl
          rw [kf] at k
          obtain ⟨_, op, oi⟩ := rd'
          have fin : tRet (tC (.bl false)) { nx := fun _ H' => Q .non H', rt := Q } [] H1 := k _ _ g3
          have shi := isI_eq sh
          rw [oi] at shi
          refine i_case (fun c1 => ?_) (fun c1 => ?_)
          · obtain ⟨q, us, rfl, hq⟩ := shT_of sh c1
            have hn : us.length ≠ 2 := by rw [isPr_tup hq] at op; simpa using op
            walk_at "go"
            refine i_lenT (SqT.of (hS1 _ _ hq)) ?_
            walk_at "go"
            rw [dI, decide_eq_false (show ¬ (us.length : Int) = 2 by omega)]
            refine iteF ?_
            walk_at "go"
            have ei : shB B (.ref q) "int" = false := by rw [shB_tup hq]; decide
            rw [ei]
            refine iteT ?_
            refine iteT ?_
            exact k _ _ g3
          · walk_at "go"
            refine i_case (fun c2 => ?_) (fun c2 => ?_)
            · refine iteT ?_
              exact k _ _ g3
            · rw [nF c2] at shi
              walk_at "go"
              have eb : shB B x "bool" = true := by
                cases e : shB B x "bool" with
                | true => rfl
                | false => rw [e] at shi; cases shi
              rw [eb]
              refine iteT ?_
              refine iteT ?_
              exact k _ _ g3
      · rintro σ H1 ⟨ys, es, n', v3, rfl, g3, hL1, hM1, re, ok1, hz1⟩
        rw [zl, List.drop_length] at ok1 hz1
        walk_at "go"
        refine ⟨m, ys, es, n', _, _, _, rfl, g3, bm, nm, hM1, re, (Ok2_next i es n').symm.trans ok1, by simp [sizL] at *; omega⟩
    · rintro σ H' ⟨l, xs, ds, n, v1, v2, v3, rfl, g, bl, nl, hL, rl, ok, hz'⟩
      have zl := rl.len
      walk_at "go"
      refine i_lenL (SqL.of hL) ?_
      walk_at "go"
      rw [dI]
      refine i_case (fun c => ?_) (fun c => ?_)
      · have e0 : ds = [] := by have := of_decide_eq_true c; exact List.length_eq_zero_iff.mp (by omega)
        subst e0
        walk_at "go"
        have e : decide ((n : Int) ≤ 60) = d.okK := by
          cases q : d.okK with
          | true =>
            have h1 := (ok.mpr q).2.2
            have h2 : (n : Int) ≤ 60 := by omega
            exact decide_eq_true h2
          | false => refine decide_eq_false (fun z => ?_); rw [ok.mp ⟨fun _ h => (nomatch h), fun _ h => (nomatch h), by have c0 : cntL [] = 0 := rfl; omega⟩] at q; cases q
        rw [e]
        exact k _ _ g
      · have e : d.okK = false := by
          refine no_ok ok ?_
          rintro ⟨h1, _⟩
          cases ds with
          | nil => simp at zl; rw [zl] at c; simp at c
          | cons a r => have := (h1 a List.mem_cons_self).2; omega
        rw [← e]
        exact k _ _ g
end

end K06
set_option maxRecDepth 100000
set_option maxHeartbeats 2000000
namespace K06
open PySem PySem.Spec PyProof.Rows L2 Us
def spMakers0 : Sp := fun vs H Q _ => ∃ p, vs = [.ref p] ∧ H p = some (.tup []) ∧ ∀ H' q, (∀ b o, H b = some o → H' b = some o) → H q = none → H' q = some (.tup []) → Q (.ref q) H'
def spAre0 : Sp := fun vs H Q _ => ∃ p, vs = [.ref p, .int 12] ∧ H p = some (.tup []) ∧ ∀ H', (∀ b o, H b = some o → H' b = some o) → Q (.bl true) H'
def spLot0 (K : PySem.W.Frag) : Sp := fun vs H Q _ => ∃ x dx p, vs = [.ref x, .str "once", .ref p] ∧ H p = some (.tup []) ∧ H x = some (.ins (He.ga K "Lot") dx []) ∧ ∀ H' fs, (∀ b o, b ≠ x → H b = some o → H' b = some o) → H' x = some (.ins (He.ga K "Lot") dx fs) → Q .non H'
theorem kN {H H1 : Hp} {p : Addr} {o : HO} (k : ∀ b u, H b = some u → H1 b = some u) (h : H1 p = none) : ∀ b u, H b = some u → upd H1 p o b = some u := fun b u e => by rw [upd_ne (ne_of_none (k b u e) h)]; exact k b u e
theorem kF {H H1 : Hp} {p : Addr} (k : ∀ b u, H b = some u → H1 b = some u) (h : H1 p = none) : H p = none := by
  cases e : H p with
  | none => rfl
  | some u => rw [k p u e] at h; cases h
section
variable {P : Program} {w : World} {K : PySem.W.Frag} {mg : Str → Option Value} {base : Heap}
theorem ok_makers0 (T : Txt K mg) : DefOk P w K mg base CX0 1 "needed_makers" p_needed_makers spMakers0 := by
  refine T.d_needed_makers.ok sc_needed_makers (fun _ _ _ _ _ _ us hl => match us, hl with | [_], _ => rfl) (fun vs H Q E h => ?_) (fun f cdv A outer s H vs Q E hr h => ?_)
  · obtain ⟨p, rfl, _⟩ := h
    rfl
  · obtain ⟨p, rfl, hp, k⟩ := h
    refine ⟨_, PSs.nox (pss_cons (ps_set (i := 1) sc_needed_makers.nd rfl (Or.inl rfl) (pe_lst pa_nil))
    (pss_cons (ps_set (i := 2) sc_needed_makers.nd rfl (Or.inl rfl) (pe_lst pa_nil))
    (pss_cons (ps_for PassesOwn.never rfl (pi_list (pe_callB (cr_sortedSet rfl) (by rfl) T.f_sorted (by decide +kernel) (pa_cons (pe_callTy (call_setTI rfl) (by rfl) T.f_set (by decide +kernel) (pa_cons (pv 0) pa_nil)) pa_nil))) (pg_name (i := 3) sc_needed_makers.nd rfl (Or.inl rfl)) pss_never)
    (pss_one (ps_ret (pe_callTy call_tupU (by rfl) T.f_tuple (by decide +kernel) (pa_cons (pv 1) pa_nil))))))), ?_⟩
    walk_at "go"
    refine ⟨sz5 (by simp), fun f1 hf1 => ?_⟩
    walk_at "go"
    refine ⟨sz5 (by simp), fun f2 hf2 => ?_⟩
    walk_at "go"
    have k1 := kN (o := .lst []) (fun b u e => e) hf1
    have k2 := kN (o := .lst []) k1 hf2
    refine ⟨p, [], rfl, SqT.of (k2 _ _ hp), by simp, fun q c hq hc => ?_⟩
    have c0 : c = 0 := by simpa using hc
    subst c0
    refine ⟨q, _, 0, rfl, upd_same, by decide, fun ns r _ _ hn hr' => ?_⟩
    have n0 : ns = [] := List.length_eq_zero_iff.mp hn
    subst n0
    have k3 := kN (o := SetO w q (fun j => decide (j ∈ [])) 0) k2 hq
    have k4 := kN (o := .lst ([].map V.int)) k3 hr'
    have nf2 : upd H f1 (.lst []) f2 = none := hf2
    have e1 : upd (upd (upd (upd H f1 (.lst [])) f2 (.lst [])) q (SetO w q (fun j => decide (j ∈ [])) 0)) r (.lst ([].map V.int)) f1 = some (.lst []) := by
      have a1 : upd H f1 (.lst []) f1 = some (.lst []) := upd_same
      have a2 : upd (upd H f1 (.lst [])) f2 (.lst []) f1 = some (.lst []) := (upd_ne (ne_of_none a1 hf2)).trans a1
      have a3 : upd (upd (upd H f1 (.lst [])) f2 (.lst [])) q (SetO w q (fun j => decide (j ∈ [])) 0) f1 = some (.lst []) := (upd_ne (ne_of_none a2 hq)).trans a2
      exact (upd_ne (ne_of_none a3 hr')).trans a3
    refine ⟨r, rfl, ⟨_, SqL.of upd_same⟩, for_list (K := K) (a := r) (xs := []) (fun i σ H' => σ = [some (.ref p), some (.ref f1), some (.ref f2), none] ∧ H' r = some (.lst []) ∧ H' f1 = some (.lst []) ∧ (∀ b u, H b = some u → H' b = some u))
      ⟨rfl, upd_same, e1, k4⟩ (fun i σ H' _ h => SqL.of h.2.1) (fun i x σ H' hx => by simp at hx) ?_⟩
    rintro σ H' ⟨rfl, _, h1, k5⟩
    walk_at "go"
    refine i_tupL (SqL.of h1) fun z hz => ?_
    exact k _ z (kN k5 hz) (kF k5 hz) upd_same
theorem ok_are0 (T : Txt K mg) (Dis_integer : DefOk P w K mg base CX0 1 "is_integer" p_is_integer (spIsInt K)) : DefOk P w K mg base CX0 2 "are_makers" p_are_makers spAre0 := by
  refine T.d_are_makers.ok sc_are_makers (fun _ _ _ _ _ _ us hl => match us, hl with | [_, _], _ => rfl) (fun vs H Q E h => ?_) (fun f cdv A outer s H vs Q E hr h => ?_)
  · obtain ⟨p, rfl, _⟩ := h
    rfl
  · obtain ⟨p, rfl, hp, k⟩ := h
    refine ⟨_, PSs.nox (pss_cons (ps_if (PW.pt (pw_or (pt_not (pt_val (pe_callB call_isi (by rfl) T.f_isinstance (by decide +kernel) (pa_cons (pv 0) (pa_cons (pe_bltn (v := .ty "tuple") (by rfl) T.f_tuple (by decide +kernel) rfl) pa_nil))))) (pw_or1 (pt_not (pt_val (pe_callB (cr_all rfl) (by rfl) T.f_all (by decide +kernel) (pa_cons (pe_lc (own := [("maker", 2)]) (g := gName 2) (tt := tYes) rfl sc_are_makers.nd (pi_tup (pv 0)) (blkOk_by (own := [("maker", 2)]) (N := n_are_makers) (sc := defScope s_are_makers) (by decide +kernel)) (fun _ _ _ _ _ => (pg_name (i := 2) sc_are_makers.nd rfl (Or.inl rfl))) (fun _ _ _ _ _ => pts_nil) (fun _ _ _ _ _ => (pe_and (pe_callD Dis_integer (hr.mono (by first | decide | omega)) rfl pass0 (pa_cons (pv 2) pa_nil)) (pe_one (pe_cmpR op_gt (pv 2) pe_int (nomark _)))))) pa_nil)))))))
      (pss_one (ps_ret pe_bl))
      pss_nil)
    (pss_one (ps_ret (pe_or (pe_cmpR op_isNU (pv 1) pe_non (nomark _)) (pe_one (pe_not (pe_callB (cr_any rfl) (by rfl) T.f_any (by decide +kernel) (pa_cons (pe_lc (own := [("maker", 2)]) (g := gName 2) (tt := tYes) rfl sc_are_makers.nd (pi_tup (pv 0)) (blkOk_by (own := [("maker", 2)]) (N := n_are_makers) (sc := defScope s_are_makers) (by decide +kernel)) (fun _ _ _ _ _ => (pg_name (i := 2) sc_are_makers.nd rfl (Or.inl rfl))) (fun _ _ _ _ _ => pts_nil) (fun _ _ _ _ _ => (pe_cmpR op_gt (pv 2) (pv 1) (nomark _)))) pa_nil)))))))), ?_⟩
    have S0 : Same H H := Same.refl H
    have sh : Sh K H (.ref p) := .tup hp
    walk_at "go"
    rw [tT hp]
    refine iteF ?_
    walk_at "go"
    refine ⟨p, rfl, ⟨_, SqT.of hp⟩, fun D hD => lc_tup (K := K) (a := p) (xs := []) (fun i H' => H' = upd H D (.lst [])) rfl (fun i H' _ h => by rw [h]; exact SqT.of ((upd_ne (ne_of_none hp hD)).trans hp)) (fun i x H' hx => by simp at hx) ?_⟩
    rintro H' rfl
    walk_at "go"
    refine i_all (bs := []) (SqL.of upd_same) ?_
    walk_at "go"
    refine iteF ?_
    walk_at "go"
    refine iteF ?_
    walk_at "go"
    have k1 := kN (o := .lst []) (fun b u e => e) hD
    have hp1 := k1 _ _ hp
    refine ⟨p, rfl, ⟨_, SqT.of hp1⟩, fun D' hD' => lc_tup (K := K) (a := p) (xs := []) (fun i H' => H' = upd (upd H D (.lst [])) D' (.lst [])) rfl (fun i H' _ h => by rw [h]; exact SqT.of ((upd_ne (ne_of_none hp1 hD')).trans hp1)) (fun i x H' hx => by simp at hx) ?_⟩
    rintro H' rfl
    walk_at "go"
    refine i_any (bs := []) (SqL.of upd_same) ?_
    walk_at "go"
    exact k _ (kN k1 hD')
theorem ok_leasts_no (T : Txt K mg) : DefOk P w K mg base CX0 1 "leasts_of" p_leasts_of (fun _ _ _ _ => False) :=
  T.d_leasts_of.ok sc_leasts_of (fun _ _ _ _ _ _ us hl => match us, hl with | [_], _ => rfl) (fun vs H Q E h => h.elim) (fun f cdv A outer s H vs Q E hr h => h.elim)
theorem kX {H H1 : Hp} {x : Addr} {o u : HO} (k : ∀ b v, b ≠ x → H b = some v → H1 b = some v) : ∀ b v, b ≠ x → H b = some v → upd H1 x o b = some v := fun b v n e => by rw [upd_ne n]; exact k b v n e
theorem ok_keep0 (T : Txt K mg) (Dneeded_makers : DefOk P w K mg base CX0 1 "needed_makers" p_needed_makers spMakers0) {fd : FuncData}
    (F : FunD K "keep" "Lot.keep" (defArgs s_Lot_keep) (defBody s_Lot_keep) (defScope s_Lot_keep) [] [] (He.ma K (He.ga K "Lot") "keep") fd) : FnOk P w K mg base CX0 2 (He.ma K (He.ga K "Lot") "keep") fd p_Lot_keep (spLot0 K) := by
  have Dleasts_of := ok_leasts_no (P := P) (w := w) (base := base) T
  refine F.ok sc_Lot_keep (fun vs H Q E h => ?_) (fun cdv A outer s H vs Q E hr h => ?_)
  · obtain ⟨x, dx, p, rfl, _⟩ := h
    rfl
  · obtain ⟨x, dx, p, rfl, hp, hx, k⟩ := h
    have hxp : p ≠ x := ne_of hp hx (by intro z; cases z)
    refine ⟨_, PSs.nox (pss_cons (ps_fld (pv 0) (pv 1) rfl)
    (pss_cons (ps_fld (pv 0) (pe_callD Dneeded_makers (hr.mono (by first | decide | omega)) rfl pass0 (pa_cons (pv 2) pa_nil)) rfl)
    (pss_one (ps_fld (pv 0) (pe_ifExp (pt_cmpR op_eq (pv 1) (pe_globD T.c_MORE) (nomark _)) (pe_callD Dleasts_of (hr.mono (by first | decide | omega)) rfl pass0 (pa_cons (pe_fld (pv 0) rfl) pa_nil)) (pe_lst pa_nil)) rfl)))), ?_⟩
    walk_at "go"
    refine ⟨x, _, dx, _, rfl, hx, T.x_Lot, T.na_word, by decide, ?_⟩
    walk_at "go"
    have k1 : ∀ b v, b ≠ x → H b = some v → upd H x (.ins (He.ga K "Lot") dx (putF "word" (.str "once") [])) b = some v := fun b v n e => by rw [upd_ne n]; exact e
    refine ⟨p, rfl, k1 _ _ hxp hp, fun H1 q k2 hq hq1 => ?_⟩
    have hx1 : H1 x = some (.ins (He.ga K "Lot") dx (putF "word" (.str "once") [])) := k2 _ _ upd_same
    have k3 : ∀ b v, b ≠ x → H b = some v → H1 b = some v := fun b v n e => k2 _ _ (k1 b v n e)
    walk_at "go"
    refine ⟨x, _, dx, _, rfl, hx1, T.x_Lot, T.na_makers, by show 1 < 1000; decide, ?_⟩
    walk_at "go"
    refine iteF ?_
    walk_at "go"
    refine ⟨sz5 (by simp), fun r hr' => ?_⟩
    have hx2 : upd H1 x (.ins (He.ga K "Lot") dx (putF "makers" (.ref q) (putF "word" (.str "once") []))) x = some (.ins (He.ga K "Lot") dx (putF "makers" (.ref q) (putF "word" (.str "once") []))) := upd_same
    walk_at "go"
    refine ⟨x, _, dx, _, rfl, (upd_ne (ne_of_none hx2 hr')).trans hx2, T.x_Lot, T.na_leasts, by show 2 < 1000; decide, ?_⟩
    refine k _ _ (fun b v n e => ?_) upd_same
    rw [upd_ne n]
    have e1 : upd H1 x (.ins (He.ga K "Lot") dx (putF "makers" (.ref q) (putF "word" (.str "once") []))) b = some v := by rw [upd_ne n]; exact k3 b v n e
    exact (upd_ne (ne_of_none e1 hr')).trans e1
theorem ok_init0 (T : Txt K mg) (Dare_makers : DefOk P w K mg base CX0 2 "are_makers" p_are_makers spAre0) {fd fdk : FuncData}
    (Gkeep : FnOk P w K mg base CX0 2 (He.ma K (He.ga K "Lot") "keep") fdk p_Lot_keep (spLot0 K)) (bkeep : Binds K fdk p_Lot_keep [])
    (F : FunD K "__init__" "Lot.__init__" (defArgs s_Lot__init) (defBody s_Lot__init) (defScope s_Lot__init) [] [] (He.ma K (He.ga K "Lot") "__init__") fd) : FnOk P w K mg base CX0 3 (He.ma K (He.ga K "Lot") "__init__") fd p_Lot__init (spLot0 K) := by
  refine F.ok sc_Lot__init (fun vs H Q E h => ?_) (fun cdv A outer s H vs Q E hr h => ?_)
  · obtain ⟨x, dx, p, rfl, _⟩ := h
    rfl
  · obtain ⟨x, dx, p, rfl, hp, hx, k⟩ := h
    have hxp : p ≠ x := ne_of hp hx (by intro z; cases z)
    have S0 : Same H H := Same.refl H
    have sh : Sh K H (.str "once") := .str _
    refine ⟨_, PSs.nox (pss_cons (ps_if (PW.pt (pw_or (pt_not (pt_val (pe_callB call_isi (by rfl) T.f_isinstance (by decide +kernel) (pa_cons (pv 1) (pa_cons (pe_bltn (v := .ty "str") (by rfl) T.f_str (by decide +kernel) rfl) pa_nil))))) (pw_or1 (pt_cmpR op_notIn_seq (pv 1) (pe_tup (pa_cons (pe_globD T.c_ONCE) (pa_cons (pe_globD T.c_LOAN) (pa_cons (pe_globD T.c_FREE) (pa_cons (pe_globD T.c_MORE) pa_nil))))) (by rfl)))))
      (pss_one ps_never)
      pss_nil)
    (pss_cons (ps_if (PW.pt (pw_or (pt_not (pt_val (pe_callD Dare_makers (hr.mono (by first | decide | omega)) rfl pass0 (pa_cons (pv 2) (pa_cons (pe_globD T.c_MOST_MAKER) pa_nil))))) (pw_or (pt_cmpR op_ne (pe_cmpR op_gt (pe_callB call_lenU (by rfl) T.f_len (by decide +kernel) (pa_cons (pv 2) pa_nil)) pe_int (nomark _)) (pe_cmpR op_eq (pv 1) (pe_globD T.c_MORE) (nomark _)) (nomark _)) (pw_or1 (pt_cmpR op_gt (pe_callB call_lenU (by rfl) T.f_len (by decide +kernel) (pa_cons (pv 2) pa_nil)) (pe_globD T.c_MOST_MAKERS) (nomark _))))))
      (pss_one ps_never)
      pss_nil)
    (pss_one (ps_expr (pe_meth (pv 0) T.x_Lot T.me_keep Gkeep (hr.mono (by first | decide | omega)) bkeep .nil pass0 (pa_cons (pv 1) (pa_cons (pv 2) pa_nil))))))), ?_⟩
    walk_at "go"
    have e1 : shB H (.str "once") "str" = true := by show ("str" == "str") = true; decide
    rw [e1]
    refine iteF ?_
    walk_at "go"
    refine ⟨sz5 (by simp), fun t1 ht1 => ?_⟩
    refine ⟨t1, _, rfl, .inr (SqT.of upd_same), rfl, rfl, ?_⟩
    walk_at "go"
    refine iteF ?_
    walk_at "go"
    have k1 : ∀ b u, H b = some u → upd H t1 _ b = some u := kN (o := .tup [.str "once", .str "loan", .str "free", .str "more"]) (fun b u e => e) ht1
    refine ⟨p, rfl, k1 _ _ hp, fun H1 k2 => ?_⟩
    have k3 : ∀ b u, H b = some u → H1 b = some u := fun b u e => k2 _ _ (k1 b u e)
    walk_at "go"
    refine iteF ?_
    walk_at "go"
    refine i_lenT (SqT.of (k3 _ _ hp)) ?_
    walk_at "go"
    refine iteF ?_
    walk_at "go"
    refine i_lenT (SqT.of (k3 _ _ hp)) ?_
    walk_at "go"
    refine iteF ?_
    walk_at "go"
    refine ⟨x, dx, _, rfl, k3 _ _ hx, rfl, ?_⟩
    walk_at "go"
    refine ⟨x, dx, p, rfl, k3 _ _ hp, k3 _ _ hx, fun H2 fs k4 h4 => ?_⟩
    exact k _ fs (fun b o n e => k4 b o n (k3 b o e)) h4
end

end K06
set_option maxRecDepth 100000
set_option maxHeartbeats 2000000
namespace K06
open PySem PySem.Spec PyProof.Rows L2 Us
theorem HandAt.base {B H : Hp} {a p : Addr} {o : HO} (h : HandAt B H a) (hne : a ≠ p) (hB : B p = none) : HandAt (upd B p o) H a := by
  obtain ⟨b, c, ns, i, big, seed, n, hH, hc, r⟩ := h
  exact ⟨(upd_ne hne).trans b, c, ns, i, big, seed, n, hH, (upd_ne (ne_of_none hc hB)).trans hc, r⟩
theorem HandAt.ne {B H : Hp} {a p : Addr} (h : HandAt B H a) (hp : H p = none) : a ≠ p := by
  obtain ⟨b, c, ns, i, big, seed, n, hH, r⟩ := h
  exact ne_of_none hH hp
theorem HandAt.new {B H : Hp} {a p : Addr} {o : HO} (h : HandAt B H a) (s : Same B H) (hp : H p = none) : HandAt (upd B p o) (upd H p o) a := h.mono (Gr.new (ms := []) s hp) (by simp)
theorem HandAt.cell {B H : Hp} {a p : Addr} {o : HO} (h : HandAt B H a) (s : Same B H) (hp : H p = none) : HandAt B (upd H p o) a := h.mono (Gr.cell (ms := []) s hp) (by simp)
theorem HandAt.set {B H : Hp} {a p : Addr} {o : HO} (h : HandAt B H a) (hne : a ≠ p) : HandAt B (upd H p o) a := by
  obtain ⟨b, c, ns, i, big, seed, n, hH, r⟩ := h
  exact ⟨b, c, ns, i, big, seed, n, (upd_ne hne).trans hH, r⟩
/-- a thing without parts -/
def Lf (K : PySem.W.Frag) (B : Hp) (v : V) : Prop := ∃ d, RepD K B d v ∧ d.dep = 0
theorem Lf.mono {K : PySem.W.Frag} {B B' : Hp} {v : V} (s : Same B B') (h : Lf K B v) : Lf K B' v := by
  obtain ⟨d, r, e⟩ := h
  exact ⟨d, r.mono s, e⟩
section
variable {K : PySem.W.Frag} {B H B0 H0 : Hp} {a p : Addr} {us : List V}
theorem Lf.lst (h : B p = some (.lst us)) : Lf K B (.ref p) := ⟨.odd, odd_lst h, rfl⟩
theorem Lf.tup (h : B p = some (.tup us)) (hn : us.length ≠ 2) : Lf K B (.ref p) := ⟨.odd, odd_tup h hn, rfl⟩
theorem Lf.dct {kvs : List (Key × V)} (h : B p = some (.dK kvs)) : Lf K B (.ref p) := ⟨.odd, ⟨.dct h, isPr_no (by rw [shB_dct h]; decide), rfl⟩, rfl⟩
theorem Lf.ins {C dx : Addr} {fs : List (Str × V)} (h : B p = some (.ins C dx fs)) (c : OwnC K C) : Lf K B (.ref p) := ⟨.odd, ⟨.ins h c, isPr_no (by rw [shB_ins h]), rfl⟩, rfl⟩
theorem Lf.int {i : Int} : Lf K B (.int i) := ⟨.int i, rfl, rfl⟩
theorem Lf.bl {b : Bool} : Lf K B (.bl b) := ⟨.odd, ⟨.bl b, rfl, rfl⟩, rfl⟩
theorem Lf.non : Lf K B .non := ⟨.odd, ⟨.non, rfl, rfl⟩, rfl⟩
theorem Lf.str {s : Str} : Lf K B (.str s) := ⟨.odd, ⟨.str s, rfl, rfl⟩, rfl⟩
theorem al (g : Gr [a] B0 H0 B H) (hA : HandAt B H a) (hp : H p = none) (o : HO) : Same B (upd B p o) ∧ Gr [a] B0 H0 (upd B p o) (upd H p o) ∧ HandAt (upd B p o) (upd H p o) a ∧ upd B p o p = some o :=
  ⟨Same.new (bfresh g.bh hp), g.trans (Gr.new g.bh hp), hA.new g.bh hp, upd_same⟩
end
def spBent (K : PySem.W.Frag) (n : Nat) : Sp := fun vs H Q _ => ∃ B a v d, vs = [.ref a, v] ∧ Same B H ∧ HandAt B H a ∧ RepD K B d v ∧ d.good = true ∧ d.dep < n ∧ ∀ B' H' v' d', Gr [a] B H B' H' → HandAt B' H' a → RepD K B' d' v' → d'.dep ≤ d.dep → Q v' H'
section
variable {P : Program} {w : World} {K : PySem.W.Frag} {mg : Str → Option Value} {base : Heap}
theorem bent_no (T : Txt K mg) : DefOk P w K mg base CX0 4 "_law_bent" p_law_bent (spBent K 0) := by
  refine T.d_law_bent.ok sc_law_bent (fun _ _ _ _ _ _ us hl => match us, hl with | [_, _], _ => rfl) (fun vs H Q E h => ?_) (fun f cdv A outer s H vs Q E hr h => ?_)
  · obtain ⟨B, a, v, d, rfl, _⟩ := h
    rfl
  · obtain ⟨B, a, v, d, rfl, _, _, _, _, hd, _⟩ := h
    exact absurd hd (Nat.not_lt_zero _)
theorem bent_step {n : Nat} (Dlaw_bent : DefOk P w K mg base CX0 (n + 4) "_law_bent" p_law_bent (spBent K n)) (T : Txt K mg) (Dlaw_draw : DefOk P w K mg base CX0 1 "_law_draw" p_law_draw (spDraw K)) (Dlaw_some : DefOk P w K mg base CX0 2 "_law_some" p_law_some (spSome K))
    {fL : FuncData} (GLot : FnOk P w K mg base CX0 3 (He.ma K (He.ga K "Lot") "__init__") fL p_Lot__init (spLot0 K)) (bLot : Binds K fL p_Lot__init []) :
    DefOk P w K mg base CX0 (n + 5) "_law_bent" p_law_bent (spBent K (n + 1)) := by
  refine T.d_law_bent.ok sc_law_bent (fun _ _ _ _ _ _ us hl => match us, hl with | [_, _], _ => rfl) (fun vs H Q E h => ?_) (fun f cdv A outer s H vs Q E hr h => ?_)
  · obtain ⟨B, a, v, d, rfl, _⟩ := h
    rfl
  · obtain ⟨B, a, v, d, rfl, hS, hA, rd, gd, hn, k⟩ := h
    refine ⟨_, PSs.nox (pss_cons (ps_if (PW.pt (pw_and (pt_val (pe_callB call_isi (by rfl) T.f_isinstance (by decide +kernel) (pa_cons (pv 1) (pa_cons (pe_bltn (v := .ty "tuple") (by rfl) T.f_tuple (by decide +kernel) rfl) pa_nil)))) (pw_and1 (pt_cmpR op_gt (pe_callD Dlaw_draw (hr.mono (by first | decide | omega)) rfl pass0 (pa_cons (pv 0) (pa_cons pe_int pa_nil))) pe_int (nomark _)))))
      (pss_cons (ps_if (pt_cmpR op_eq (pe_callD Dlaw_draw (hr.mono (by first | decide | omega)) rfl pass0 (pa_cons (pv 0) (pa_cons pe_int pa_nil))) pe_int (nomark _))
        (pss_one (ps_ret (pe_tup (pa_cons (pe_callD Dlaw_bent (hr.mono (by first | decide | omega)) rfl pass0 (pa_cons (pv 0) (pa_cons (pe_ix ix_tup (pv 1) pe_int (fun _ _ => rfl)) pa_nil))) (pa_cons (pe_ix ix_tup (pv 1) pe_int (fun _ _ => rfl)) pa_nil)))))
        pss_nil)
      (pss_one (ps_ret (pe_tup (pa_cons (pe_ix ix_tup (pv 1) pe_int (fun _ _ => rfl)) (pa_cons (pe_callD Dlaw_bent (hr.mono (by first | decide | omega)) rfl pass0 (pa_cons (pv 0) (pa_cons (pe_ix ix_tup (pv 1) pe_int (fun _ _ => rfl)) pa_nil))) pa_nil))))))
      pss_nil)
    (pss_cons (ps_set (i := 2) sc_law_bent.nd rfl (Or.inl rfl) (pe_lst (pa_cons pe_int (pa_cons (pe_un un_neg pe_int) (pa_cons pe_bl (pa_cons pe_bl (pa_cons pe_non (pa_cons pe_str (pa_cons pe_str (pa_cons (pe_lst (pa_cons pe_int (pa_cons pe_int pa_nil))) (pa_cons (pe_tup (pa_cons pe_int pa_nil)) (pa_cons (pe_tup (pa_cons pe_int (pa_cons pe_int (pa_cons pe_int pa_nil)))) (pa_cons (pe_tup pa_nil) (pa_cons pe_dnewK (pa_cons (pe_op op_pow pe_int pe_int) (pa_cons (pe_make T.mk_Lot GLot (hr.mono (by first | decide | omega)) rfl T.g_Lot bLot .nil pass0 (pa_cons pe_str (pa_cons (pe_tup pa_nil) pa_nil))) pa_nil))))))))))))))))
    (pss_one (ps_ret (pe_callD Dlaw_some (hr.mono (by first | decide | omega)) rfl pass0 (pa_cons (pv 0) (pa_cons (pe_op op_cat (pv 2) (pe_lst (pa_cons pe_int (pa_cons (pe_ifExp (pt_val (pe_callB call_isi (by rfl) T.f_isinstance (by decide +kernel) (pa_cons (pv 1) (pa_cons (pe_bltn (v := .ty "tuple") (by rfl) T.f_tuple (by decide +kernel) rfl) pa_nil)))) (pe_callTy call_listU (by rfl) T.f_list (by decide +kernel) (pa_cons (pv 1) pa_nil)) (pe_lst (pa_cons (pv 1) pa_nil))) pa_nil)))) pa_nil))))))), ?_⟩
    refine i_seq (i_join (fun σ' H' => σ' = [some (.ref a), some v, none] ∧ Gr [a] B H B H' ∧ HandAt B H' a) ?_ (fun hj => ?_))
    · rintro σ' H0 ⟨rfl, g0, hA0⟩
      have e0 : ∃ Bz, Bz = B := ⟨B, rfl⟩
      obtain ⟨Bz, rfl⟩ := e0
      have sh := rd.sh
      walk_at "go"
      refine ⟨sz5 (by simp), fun p1 hp1 => ?_⟩
      obtain ⟨s1, g1, hA1, e1⟩ := al g0 hA0 hp1 (.lst [.int 0, .int 0])
      have rd := rd.mono s1
      have l1 := Lf.lst (K := K) e1
      generalize upd Bz p1 (.lst [.int 0, .int 0]) = B1 at *
      generalize upd H0 p1 (.lst [.int 0, .int 0]) = H1 at *
      walk_at "go"
      refine ⟨sz5 (by simp), fun p2 hp2 => ?_⟩
      obtain ⟨s2, g2, hA2, e2⟩ := al g1 hA1 hp2 (.tup [.int 0])
      have rd := rd.mono s2
      have l1 := l1.mono s2
      have l2 := Lf.tup (K := K) e2 (by simp)
      generalize upd B1 p2 (.tup [.int 0]) = B2 at *
      generalize upd H1 p2 (.tup [.int 0]) = H2 at *
      walk_at "go"
      refine ⟨sz5 (by simp), fun p3 hp3 => ?_⟩
      obtain ⟨s3, g3, hA3, e3⟩ := al g2 hA2 hp3 (.tup [.int 0, .int 0, .int 0])
      have rd := rd.mono s3
      have l1 := l1.mono s3
      have l2 := l2.mono s3
      have l3 := Lf.tup (K := K) e3 (by simp)
      generalize upd B2 p3 (.tup [.int 0, .int 0, .int 0]) = B3 at *
      generalize upd H2 p3 (.tup [.int 0, .int 0, .int 0]) = H3 at *
      walk_at "go"
      refine ⟨sz5 (by simp), fun p4 hp4 => ?_⟩
      obtain ⟨s4, g4, hA4, e4⟩ := al g3 hA3 hp4 (.tup [])
      have rd := rd.mono s4
      have l1 := l1.mono s4
      have l2 := l2.mono s4
      have l3 := l3.mono s4
      have l4 := Lf.tup (K := K) e4 (by simp)
      generalize upd B3 p4 (.tup []) = B4 at *
      generalize upd H3 p4 (.tup []) = H4 at *
      walk_at "go"
      intro p5 hp5
      obtain ⟨s5, g5, hA5, e5⟩ := al g4 hA4 hp5 (.dK [])
      have rd := rd.mono s5
      have l1 := l1.mono s5
      have l2 := l2.mono s5
      have l3 := l3.mono s5
      have l4 := l4.mono s5
      have l5 := Lf.dct (K := K) e5
      generalize upd B4 p5 (.dK []) = B5 at *
      generalize upd H4 p5 (.dK []) = H5 at *
      walk_at "go"
      refine i_rI ⟨by decide, by decide, by decide⟩ ?_
      generalize (10 : Int) ^ Int.toNat 29 = big
      walk_at "go"
      refine ⟨sz5 (by simp), fun p6 hp6 => ?_⟩
      obtain ⟨s6, g6, hA6, e6⟩ := al g5 hA5 hp6 (.tup [])
      have rd := rd.mono s6
      have l1 := l1.mono s6
      have l2 := l2.mono s6
      have l3 := l3.mono s6
      have l4 := l4.mono s6
      have l5 := l5.mono s6
      generalize upd B5 p6 (.tup []) = B6 at *
      generalize upd H5 p6 (.tup []) = H6 at *
      walk_at "go"
      intro x dx nx ndx nex
      have e6' := g6.bh _ _ e6
      refine ⟨x, dx, p6, rfl, (upd_ne (ne_of_none e6' nx)).trans ((upd_ne (ne_of_none e6' ndx)).trans e6'), upd_same, fun H7 fs k7 h7 => ⟨rfl, ?_⟩⟩
      have k8 : ∀ b o, H6 b = some o → H7 b = some o := fun b o e => k7 b o (ne_of_none e nx) ((upd_ne (ne_of_none e nx)).trans ((upd_ne (ne_of_none e ndx)).trans e))
      have s7 : Same B6 (upd B6 x (.ins (He.ga K "Lot") dx fs)) := Same.new (bfresh g6.bh nx)
      have g7 := g6.trans (Gr.obj (o := .ins (He.ga K "Lot") dx fs) g6.bh nx k8 h7)
      have hA7 := hA6.mono (Gr.obj (ms := []) (o := .ins (He.ga K "Lot") dx fs) g6.bh nx k8 h7) (by simp)
      have l7 : Lf K (upd B6 x (.ins (He.ga K "Lot") dx fs)) (.ref x) := Lf.ins upd_same T.ow_Lot
      have rd := rd.mono s7
      have l1 := l1.mono s7
      have l2 := l2.mono s7
      have l3 := l3.mono s7
      have l4 := l4.mono s7
      have l5 := l5.mono s7
      generalize upd B6 x (.ins (He.ga K "Lot") dx fs) = B7 at *
      walk_at "go"
      refine ⟨sz5 (by simp), fun q hq => ?_⟩
      have hq0 := g7.fresh hq
      have bq := bfresh g7.bh hq
      have aq := hA7.ne hq
      have g8 := g7.trans (Gr.cell (o := .lst [.int 26, .int (-1), .bl true, .bl false, .non, .str "0", .str "a", .ref p1, .ref p2, .ref p3, .ref p4, .ref p5, .int big, .ref x]) g7.bh hq)
      have hA8 := hA7.cell (o := .lst [.int 26, .int (-1), .bl true, .bl false, .non, .str "0", .str "a", .ref p1, .ref p2, .ref p3, .ref p4, .ref p5, .int big, .ref x]) g7.bh hq
      have hQ : upd H7 q (.lst [.int 26, .int (-1), .bl true, .bl false, .non, .str "0", .str "a", .ref p1, .ref p2, .ref p3, .ref p4, .ref p5, .int big, .ref x]) q = some (.lst [.int 26, .int (-1), .bl true, .bl false, .non, .str "0", .str "a", .ref p1, .ref p2, .ref p3, .ref p4, .ref p5, .int big, .ref x]) := upd_same
      have all8 : ∀ y ∈ [V.int 26, .int (-1), .bl true, .bl false, .non, .str "0", .str "a", .ref p1, .ref p2, .ref p3, .ref p4, .ref p5, .int big, .ref x], Lf K B7 y := by
        intro y hy
        simp only [List.mem_cons, List.not_mem_nil, or_false] at hy
        rcases hy with rfl | rfl | rfl | rfl | rfl | rfl | rfl | rfl | rfl | rfl | rfl | rfl | rfl | rfl
        · exact Lf.int
        · exact Lf.int
        · exact Lf.bl
        · exact Lf.bl
        · exact Lf.non
        · exact Lf.str
        · exact Lf.str
        · exact l1
        · exact l2
        · exact l3
        · exact l4
        · exact l5
        · exact Lf.int
        · exact l7
      have l14 : [V.int 26, .int (-1), .bl true, .bl false, .non, .str "0", .str "a", .ref p1, .ref p2, .ref p3, .ref p4, .ref p5, .int big, .ref x].length = 14 := rfl
      generalize [V.int 26, .int (-1), .bl true, .bl false, .non, .str "0", .str "a", .ref p1, .ref p2, .ref p3, .ref p4, .ref p5, .int big, .ref x] = ys at *
      generalize upd H7 q (.lst ys) = H8 at *
      have S8 := g8.bh
      have sh := rd.sh
      walk_at "go"
      have fin : ∀ (B9 H9 : Hp) (r z : Addr), Gr [a] Bz H B9 H9 → HandAt B9 H9 a → Same B7 B9 → Lf K B9 (.ref r) → H9 z = none → ∀ Q', (∀ B' H' v' d', Gr [a] Bz H B' H' → HandAt B' H' a → RepD K B' d' v' → d'.dep = 0 → Q' v' H') → ∀ pz, upd H9 z (.lst (ys ++ [.int 25, .ref r])) = pz → spSome K [.ref a, .ref z] (upd H9 z (.lst (ys ++ [.int 25, .ref r]))) Q' E0 := by
        intro B9 H9 r z g9 hA9 s79 lr hz Q' kq pz _
        have g10 := g9.trans (Gr.new (o := .lst (ys ++ [.int 25, .ref r])) g9.bh hz)
        refine ⟨_, a, z, ys ++ [.int 25, .ref r], rfl, g10.bh, hA9.new g9.bh hz, upd_same, by simp, by rw [List.length_append, l14]; simp, fun H' y g hA' hy => ?_⟩
        have s9 := Same.new (o := .lst (ys ++ [.int 25, .ref r])) (bfresh g9.bh hz)
        have ly : Lf K (upd B9 z (.lst (ys ++ [.int 25, .ref r]))) y := by
          rcases List.mem_append.mp hy with hy | hy
          · exact ((all8 y hy).mono s79).mono s9
          · rcases List.mem_cons.mp hy with rfl | hy
            · exact Lf.int
            · rw [List.mem_singleton.mp hy]; exact lr.mono s9
        obtain ⟨d', r', e'⟩ := ly
        exact kq _ _ y d' (g10.trans g) hA' r' e'
      refine i_case (fun c => ?_) (fun c => ?_)
      · obtain ⟨pk, us, rfl, hk⟩ := shT_of sh c
        walk_at "go"
        refine i_listT (SqT.of (S8 _ _ hk)) fun r hr' => ?_
        obtain ⟨s9, g9, hA9, e9⟩ := al g8 hA8 hr' (.lst us)
        have hQ9 := g9.keep
        walk_at "go"
        refine ⟨sz5 (by simp), fun z hz => ?_⟩
        have nq : upd H8 r (.lst us) q = some (.lst ys) := (upd_ne (ne_of_none hQ hr')).trans hQ
        have g10 := g9.trans (Gr.cell (o := .lst [.int 25, .ref r]) g9.bh hz)
        refine ⟨q, z, ys, [.int 25, .ref r], rfl, rfl, (upd_ne (ne_of_none nq hz)).trans nq, upd_same, sz5 (by rw [l14]; simp), fun y hy => ?_⟩
        walk_at "go"
        exact fin _ _ r y g10 (hA9.cell g9.bh hz) s9 (Lf.lst e9) hy _ (fun B' H' v' d' g' hA' r' e' => k B' H' v' d' g' hA' r' (by rw [e']; exact Nat.zero_le _)) _ rfl
      · walk_at "go"
        refine ⟨sz5 (by simp), fun r hr' => ?_⟩
        obtain ⟨s9, g9, hA9, e9⟩ := al g8 hA8 hr' (.lst [v])
        walk_at "go"
        refine ⟨sz5 (by simp), fun z hz => ?_⟩
        have nq : upd H8 r (.lst [v]) q = some (.lst ys) := (upd_ne (ne_of_none hQ hr')).trans hQ
        have g10 := g9.trans (Gr.cell (o := .lst [.int 25, .ref r]) g9.bh hz)
        refine ⟨q, z, ys, [.int 25, .ref r], rfl, rfl, (upd_ne (ne_of_none nq hz)).trans nq, upd_same, sz5 (by rw [l14]; simp), fun y hy => ?_⟩
        walk_at "go"
        exact fin _ _ r y g10 (hA9.cell g9.bh hz) s9 (Lf.lst e9) hy _ (fun B' H' v' d' g' hA' r' e' => k B' H' v' d' g' hA' r' (by rw [e']; exact Nat.zero_le _)) _ rfl
    · have sh := rd.sh
      walk_at "go"
      refine i_case (fun c => ?_) (fun c => ?_)
      · cases d with
        | int i => cases rd; rw [tI] at c; cases c
        | odd => cases gd
        | pr d1 d2 =>
          obtain ⟨q, x, y, rfl, hq, hx, hy⟩ := rd
          simp only [Dd.good, Bool.and_eq_true] at gd
          simp only [Dd.dep] at hn k
          walk_at "go"
          refine ⟨B, a, 5, rfl, by decide, by decide, hS, hA, fun H1 z1 g1 hA1 _ _ => ?_⟩
          walk_at "go"
          refine i_case (fun c => ?_) (fun c => ?_)
          · walk_at "go"
            refine ⟨B, a, 2, rfl, by decide, by decide, g1.bh, hA1, fun H2 z2 g2 hA2 _ _ => ?_⟩
            walk_at "go"
            rw [dI]
            refine i_case (fun c => ?_) (fun c => ?_)
            · walk_at "go"
              refine i_ixT (SqT.of (g2.bh _ _ hq)) atI0 ?_
              walk_at "go"
              refine ⟨B, a, x, d1, rfl, g2.bh, hA2, hx, gd.1, by omega, fun B3 H3 v3 d3 g3 hA3 r3 dd3 => ?_⟩
              walk_at "go"
              refine i_ixT (SqT.of (g3.bh _ _ (g3.bb _ _ hq))) atI1 ?_
              walk_at "go"
              refine ⟨sz5 (by simp), fun p hp => ?_⟩
              obtain ⟨s4, g4, hA4, e4⟩ := al ((g1.trans g2).trans g3) hA3 hp (.tup [v3, y])
              refine k _ _ _ (.pr d3 d2) g4 hA4 ⟨p, v3, y, rfl, e4, r3.mono s4, (hy.mono g3.bb).mono s4⟩ ?_
              simp only [Dd.dep]; omega
            · walk_at "go"
              refine i_ixT (SqT.of (g2.bh _ _ hq)) atI0 ?_
              walk_at "go"
              refine i_ixT (SqT.of (g2.bh _ _ hq)) atI1 ?_
              walk_at "go"
              refine ⟨B, a, y, d2, rfl, g2.bh, hA2, hy, gd.2, by omega, fun B3 H3 v3 d3 g3 hA3 r3 dd3 => ?_⟩
              walk_at "go"
              refine ⟨sz5 (by simp), fun p hp => ?_⟩
              obtain ⟨s4, g4, hA4, e4⟩ := al ((g1.trans g2).trans g3) hA3 hp (.tup [x, v3])
              refine k _ _ _ (.pr d1 d3) g4 hA4 ⟨p, x, v3, rfl, e4, (hx.mono g3.bb).mono s4, r3.mono s4⟩ ?_
              simp only [Dd.dep]; omega
          · exact hj _ _ ⟨rfl, g1, hA1⟩
      · exact hj _ _ ⟨rfl, Gr.refl hS, hA⟩
theorem ok_bent (T : Txt K mg) (Dlaw_draw : DefOk P w K mg base CX0 1 "_law_draw" p_law_draw (spDraw K)) (Dlaw_some : DefOk P w K mg base CX0 2 "_law_some" p_law_some (spSome K))
    {fL : FuncData} (GLot : FnOk P w K mg base CX0 3 (He.ma K (He.ga K "Lot") "__init__") fL p_Lot__init (spLot0 K)) (bLot : Binds K fL p_Lot__init []) : ∀ n, DefOk P w K mg base CX0 (n + 4) "_law_bent" p_law_bent (spBent K n)
  | 0 => bent_no T
  | n + 1 => bent_step (ok_bent T Dlaw_draw Dlaw_some GLot bLot n) T Dlaw_draw Dlaw_some GLot bLot
end

end K06
set_option maxRecDepth 100000
set_option maxHeartbeats 2000000
namespace K06
open PySem PySem.Spec PyProof.Rows L2 Us
theorem cut_to (xs : List V) (j : Nat) (h : j ≤ xs.length) : cutV xs none (some (j : Int)) = xs.take j := by
  unfold cutV
  rw [HT.sIx_none, HT.sIx_nat, Nat.sub_zero, List.drop_zero, Nat.min_eq_left h]
theorem cut_from (xs : List V) (j : Nat) (h : j ≤ xs.length) : cutV xs (some (j : Int)) none = xs.drop j := by
  unfold cutV
  rw [HT.sIx_none, HT.sIx_nat, Nat.min_eq_left h]
  rw [List.take_of_length_le (by rw [List.length_drop]; omega)]
section
variable {K : PySem.W.Frag} {B : Hp}
theorem RepL.take : ∀ {xs : List V} {ds : List Dd} (j : Nat), RepL K B xs ds → RepL K B (xs.take j) (ds.take j)
  | _, _, 0, _ => by rw [List.take_zero, List.take_zero]; exact True.intro
  | [], [], j + 1, h => True.intro
  | x :: xs, d :: ds, j + 1, h => ⟨h.1, RepL.take j h.2⟩
  | [], _ :: _, _ + 1, h => h.elim
  | _ :: _, [], _ + 1, h => h.elim
theorem RepL.drop : ∀ {xs : List V} {ds : List Dd} (j : Nat), RepL K B xs ds → RepL K B (xs.drop j) (ds.drop j)
  | _, _, 0, h => h
  | [], [], j + 1, h => True.intro
  | x :: xs, d :: ds, j + 1, h => RepL.drop j h.2
  | [], _ :: _, _ + 1, h => h.elim
  | _ :: _, [], _ + 1, h => h.elim
end
theorem siz_split (ds : List Dd) (j : Nat) (d e : Dd) (hd : ds[j]? = some d) (he : ds[j + 1]? = some e) : sizL ds = sizL (ds.take j) + (d.siz + (e.siz + sizL (ds.drop (j + 2)))) := by
  have hj : j < ds.length := (List.getElem?_eq_some_iff.mp hd).1
  have hj1 : j + 1 < ds.length := (List.getElem?_eq_some_iff.mp he).1
  have e1 : ds = ds.take j ++ (d :: e :: ds.drop (j + 2)) := by
    have h1 : ds.drop j = d :: ds.drop (j + 1) := by rw [List.drop_eq_getElem_cons hj, (List.getElem?_eq_some_iff.mp hd).2]
    have h2 : ds.drop (j + 1) = e :: ds.drop (j + 2) := by rw [List.drop_eq_getElem_cons hj1, (List.getElem?_eq_some_iff.mp he).2]
    rw [← h2, ← h1, List.take_append_drop]
  calc sizL ds = sizL (ds.take j ++ (d :: e :: ds.drop (j + 2))) := by rw [← e1]
    _ = _ := by rw [sizL_append, sizL_cons, sizL_cons]
def spGreat (K : PySem.W.Frag) : Sp := fun vs H Q _ => ∃ B a, vs = [.ref a] ∧ Same B H ∧ HandAt B H a ∧ ∀ B' H' v d, Gr [a] B H B' H' → HandAt B' H' a → RepD K B' d v → d.siz ≤ 100000 → Q v H'
section
variable {P : Program} {w : World} {K : PySem.W.Frag} {mg : Str → Option Value} {base : Heap}
theorem ok_great (T : Txt K mg) (Dlaw_draw : DefOk P w K mg base CX0 1 "_law_draw" p_law_draw (spDraw K)) : DefOk P w K mg base CX0 2 "_law_great" p_law_great (spGreat K) := by
  refine T.d_law_great.ok sc_law_great (fun _ _ _ _ _ _ us hl => match us, hl with | [_], _ => rfl) (fun vs H Q E h => ?_) (fun f cdv A outer s H vs Q E hr h => ?_)
  · obtain ⟨B, a, rfl, _⟩ := h
    rfl
  · obtain ⟨B, a, rfl, hS, hA, k⟩ := h
    refine ⟨_, PSs.nox (pss_cons (ps_if (pt_cmpR op_eq (pe_callD Dlaw_draw (hr.mono (by first | decide | omega)) rfl pass0 (pa_cons (pv 0) (pa_cons pe_int pa_nil))) pe_int (nomark _))
      (pss_cons (ps_set (i := 1) sc_law_great.nd rfl (Or.inl rfl) pe_int)
      (pss_cons (ps_for PassesOwn.never rfl (pi_range1 (by rfl) T.f_range (pa_cons (pe_op op_add pe_int (pe_callD Dlaw_draw (hr.mono (by first | decide | omega)) rfl pass0 (pa_cons (pv 0) (pa_cons pe_int pa_nil)))) pa_nil)) (pg_name (i := 2) sc_law_great.nd rfl (Or.inl rfl))
        (pss_one (ps_set (i := 1) sc_law_great.nd rfl (Or.inl rfl) (pe_ifExp (pt_cmpR op_eq (pe_callD Dlaw_draw (hr.mono (by first | decide | omega)) rfl pass0 (pa_cons (pv 0) (pa_cons pe_int pa_nil))) pe_int (nomark _)) (pe_tup (pa_cons (pv 1) (pa_cons pe_int pa_nil))) (pe_tup (pa_cons pe_int (pa_cons (pv 1) pa_nil)))))))
      (pss_one (ps_ret (pv 1)))))
      pss_nil)
    (pss_cons (ps_setLc (i := 1) (own := [("_law_turn", 2)]) (g := gName 2) (tt := tYes) rfl sc_law_great.nd rfl rfl (sw_true rfl rfl rfl (by decide +kernel)) (pi_range1 (by rfl) T.f_range (pa_cons (pe_op op_add pe_int (pe_callD Dlaw_draw (hr.mono (by first | decide | omega)) rfl pass0 (pa_cons (pv 0) (pa_cons pe_int pa_nil)))) pa_nil)) (blkOk_by (own := [("_law_turn", 2)]) (N := n_law_great) (sc := defScope s_law_great) (by decide +kernel)) (fun _ _ _ _ _ => (pg_name (i := 2) sc_law_great.nd rfl (Or.inl rfl))) (fun _ _ _ _ _ => pts_nil) (fun _ _ _ _ _ => (pe_callD Dlaw_draw (hr.mono (by first | decide | omega)) rfl pass0 (pa_cons (pv 0) (pa_cons pe_int pa_nil)))))
    (pss_cons (ps_while PassesOwn.never (pt_cmpR op_gt (pe_callB call_lenU (by rfl) T.f_len (by decide +kernel) (pa_cons (pv 1) pa_nil)) pe_int (nomark _))
      (pss_cons (ps_set (i := 3) sc_law_great.nd rfl (Or.inl rfl) (pe_ifExp (pt_cmpR op_gt (pe_callB call_lenU (by rfl) T.f_len (by decide +kernel) (pa_cons (pv 1) pa_nil)) pe_int (nomark _)) (pe_op op_mul pe_int (pe_callD Dlaw_draw (hr.mono (by first | decide | omega)) rfl pass0 (pa_cons (pv 0) (pa_cons pe_int pa_nil)))) pe_int))
      (pss_one (ps_set (i := 1) sc_law_great.nd rfl (Or.inl rfl) (pe_op op_cat (pe_op op_cat (pe_slice sl_list (pv 1) po_none (po_some (pv 3))) (pe_slice sl_list (pv 1) (po_some (pe_op op_add (pv 3) pe_int)) po_none)) (pe_lst (pa_cons (pe_tup (pa_cons (pe_ix ix_list (pv 1) (pv 3) (fun _ _ => rfl)) (pa_cons (pe_ix ix_list (pv 1) (pe_op op_add (pv 3) pe_int) (fun _ _ => rfl)) pa_nil))) pa_nil)))))))
    (pss_one (ps_ret (pe_ix ix_list (pv 1) pe_int (fun _ _ => rfl))))))), ?_⟩
    walk_at "go"
    refine ⟨B, a, 2, rfl, by decide, by decide, hS, hA, fun H1 z1 g1 hA1 _ _ => ?_⟩
    walk_at "go"
    rw [dI]
    refine i_case (fun c => ?_) (fun c => ?_)
    · walk_at "go"
      refine ⟨B, a, 5, rfl, by decide, by decide, g1.bh, hA1, fun H2 z2 g2 hA2 y0 y1 => ?_⟩
      walk_at "go"
      refine ⟨_, rfl, by omega, by omega, for_range (lo := 0) (n := (28 + z2).toNat) (fun i σ H' => ∃ B' v d v1, σ = [some (.ref a), some v, v1, none] ∧ Gr [a] B H B' H' ∧ HandAt B' H' a ∧ RepD K B' d v ∧ d.siz ≤ 1 + 2 * i)
        ⟨B, .int 0, .int 0, none, rfl, g1.trans g2, hA2, rfl, Nat.le_refl _⟩ ?_ ?_⟩
      · rintro i σ H' hi ⟨B', v, d, v1, rfl, g, hA', rd, hz⟩
        walk_at "go"
        refine ⟨B', a, 2, rfl, by decide, by decide, g.bh, hA', fun H3 z3 g3 hA3 _ _ => ?_⟩
        walk_at "go"
        rw [dI]
        refine i_case (fun c => ?_) (fun c => ?_)
        · walk_at "go"
          refine ⟨sz5 (by simp), fun p hp => ?_⟩
          obtain ⟨s4, g4, hA4, e4⟩ := al (g.trans g3) hA3 hp (.tup [v, .int 1])
          walk_at "go"
          refine ⟨_, .ref p, .pr d (.int 1), _, rfl, g4, hA4, ⟨p, v, .int 1, rfl, e4, rd.mono s4, rfl⟩, ?_⟩
          simp only [Dd.siz]; omega
        · walk_at "go"
          refine ⟨sz5 (by simp), fun p hp => ?_⟩
          obtain ⟨s4, g4, hA4, e4⟩ := al (g.trans g3) hA3 hp (.tup [.int 1, v])
          walk_at "go"
          refine ⟨_, .ref p, .pr (.int 1) d, _, rfl, g4, hA4, ⟨p, .int 1, v, rfl, e4, rfl, rd.mono s4⟩, ?_⟩
          simp only [Dd.siz]; omega
      · rintro σ H' ⟨B', v, d, v1, rfl, g, hA', rd, hz⟩
        walk_at "go"
        exact k _ _ v d g hA' rd (by omega)
    · walk_at "go"
      refine ⟨B, a, 7, rfl, by decide, by decide, g1.bh, hA1, fun H2 z2 g2 hA2 y0 y1 => ?_⟩
      walk_at "go"
      have g12 := g1.trans g2
      refine ⟨_, rfl, by omega, by omega, fun D hD => lc_range (lo := 0) (n := (57 + z2).toNat) (fun i H' => ∃ xs ds, Gr [a] B H B H' ∧ HandAt B H' a ∧ H' D = some (.lst xs) ∧ RepL K B xs ds ∧ xs.length = i ∧ sizL ds = i)
        ⟨[], [], g12.trans (Gr.cell g12.bh hD), hA2.cell g12.bh hD, upd_same, True.intro, rfl, rfl⟩ ?_ ?_⟩
      · rintro i H' hi ⟨xs, ds, g, hA', hDl, rl, lx, lz⟩
        have aD := hA2.ne hD
        walk_at "go"
        refine ⟨rfl, ?_⟩
        walk_at "go"
        refine ⟨B, a, 26, rfl, by decide, by decide, g.bh, hA', fun H3 z3 g3 hA3 _ _ => ?_⟩
        have h3 := g3.keep _ _ (fun q => aD (List.mem_singleton.mp q).symm) hDl
        have g4 := (g.trans g3).setN (o := .lst (xs ++ [.int z3])) (g12.fresh hD) (bfresh g12.bh hD)
        refine ⟨_, h3, sz5' (by omega), xs ++ [.int z3], ds ++ [.int z3], g4, hA3.set aD, upd_same, rl.append (show RepL K B [.int z3] [.int z3] from ⟨rfl, True.intro⟩), by simp [lx], by rw [sizL_append]; simp [sizL, Dd.siz] at *; omega⟩
      · rintro H' ⟨xs, ds, g, hA', hDl, rl, lx, lz⟩
        have aD := hA2.ne hD
        have bD := bfresh g12.bh hD
        have gk := g.keepN (g12.fresh hD) hDl bD
        walk_at "go"
        refine i_while (fun m σ H' => ∃ B' p xs ds v2 v3, m = xs.length ∧ σ = [some (.ref a), some (.ref p), v2, v3] ∧ Gr [a] B H B' H' ∧ HandAt B' H' a ∧ B' p = some (.lst xs) ∧ RepL K B' xs ds ∧ 0 < xs.length ∧ sizL ds + xs.length ≤ 200) xs.length
          ⟨_, D, xs, ds, _, _, rfl, rfl, gk, hA'.base aD bD, upd_same, rl.mono (Same.new bD), by omega, by omega⟩ ?_
        rintro m σ H3 ⟨B3, p, xs, ds, v2, v3, rfl, rfl, g3, hA3, hp, rl, l0, lz⟩
        have zl := rl.len
        walk_at "go"
        refine i_lenL (SqL.of (g3.bh _ _ hp)) ?_
        walk_at "go"
        refine i_case (fun c => ?_) (fun c => ?_)
        · have hl2 : 1 < xs.length := by have := of_decide_eq_true c; omega
          refine i_turn ?_
          refine i_seq (i_join (fun σ' H' => ∃ j : Nat, σ' = [some (.ref a), some (.ref p), v2, some (.int (j : Int))] ∧ j + 2 ≤ xs.length ∧ Gr [a] B H B3 H' ∧ HandAt B3 H' a) ?_ (fun hj => ?_))
          · rintro σ' H4 ⟨j, rfl, hj, g4, hA4⟩
            have hp4 := g4.bh _ _ hp
            walk_at "go"
            refine ⟨p, xs, rfl, SqL.of hp4, fun q1 hq1 => ?_⟩
            rw [cut_to xs j (by omega)]
            obtain ⟨s5, g5, hA5, e5⟩ := al g4 hA4 hq1 (.lst (xs.take j))
            have rl5 := rl.mono s5
            have hp5 := s5 _ _ hp
            generalize upd B3 q1 (.lst (xs.take j)) = B5 at *
            generalize upd H4 q1 (.lst (xs.take j)) = H5 at *
            walk_at "go"
            have ej : (j : Int) + 2 = ((j + 2 : Nat) : Int) := by omega
            rw [ej]
            refine ⟨p, xs, rfl, SqL.of (g5.bh _ _ hp5), fun q2 hq2 => ?_⟩
            rw [cut_from xs (j + 2) (by omega)]
            obtain ⟨s6, g6, hA6, e6⟩ := al g5 hA5 hq2 (.lst (xs.drop (j + 2)))
            have rl6 := rl5.mono s6
            have hp6 := s6 _ _ hp5
            have e5 := s6 _ _ e5
            generalize upd B5 q2 (.lst (xs.drop (j + 2))) = B6 at *
            generalize upd H5 q2 (.lst (xs.drop (j + 2))) = H6 at *
            refine ⟨q1, q2, _, _, rfl, rfl, g6.bh _ _ e5, g6.bh _ _ e6, sz5 (by rw [List.length_take, List.length_drop]; omega), fun q3 hq3 => ?_⟩
            obtain ⟨s7, g7, hA7, e7⟩ := al g6 hA6 hq3 (.lst (xs.take j ++ xs.drop (j + 2)))
            have rl7 := rl6.mono s7
            have hp7 := s7 _ _ hp6
            generalize upd B6 q3 (.lst (xs.take j ++ xs.drop (j + 2))) = B7 at *
            generalize upd H6 q3 (.lst (xs.take j ++ xs.drop (j + 2))) = H7 at *
            have hj0 : j < xs.length := by omega
            have hj1 : j + 1 < xs.length := by omega
            obtain ⟨d, hd, rd⟩ := rl7.get (List.getElem?_eq_getElem hj0)
            obtain ⟨e, he, re⟩ := rl7.get (List.getElem?_eq_getElem hj1)
            walk_at "go"
            refine i_ixL (SqL.of (g7.bh _ _ hp7)) (atI_nat (List.getElem?_eq_getElem hj0)) ?_
            walk_at "go"
            have ej1 : (j : Int) + 1 = ((j + 1 : Nat) : Int) := by omega
            rw [ej1]
            refine i_ixL (SqL.of (g7.bh _ _ hp7)) (atI_nat (List.getElem?_eq_getElem hj1)) ?_
            generalize xs[j] = x0 at *
            generalize xs[j + 1] = x1 at *
            walk_at "go"
            refine ⟨sz5 (by simp), fun t ht => ?_⟩
            obtain ⟨s8, g8, hA8, e8⟩ := al g7 hA7 ht (.tup [x0, x1])
            have rt : RepD K _ (.pr d e) (.ref t) := ⟨t, x0, x1, rfl, e8, rd.mono s8, re.mono s8⟩
            have rl8 := rl7.mono s8
            have e7 := s8 _ _ e7
            generalize upd B7 t (.tup [x0, x1]) = B8 at *
            generalize upd H7 t (.tup [x0, x1]) = H8 at *
            walk_at "go"
            refine ⟨sz5 (by simp), fun q4 hq4 => ?_⟩
            obtain ⟨s9, g9, hA9, e9⟩ := al g8 hA8 hq4 (.lst [.ref t])
            have rt := rt.mono s9
            have rl9 := rl8.mono s9
            have e7 := s9 _ _ e7
            generalize upd B8 q4 (.lst [.ref t]) = B9 at *
            generalize upd H8 q4 (.lst [.ref t]) = H9 at *
            walk_at "go"
            refine ⟨q3, q4, _, _, rfl, rfl, g9.bh _ _ e7, g9.bh _ _ e9, sz5 (by simp only [List.length_append, List.length_take, List.length_drop, List.length_singleton]; omega), fun q5 hq5 => ?_⟩
            obtain ⟨s10, g10, hA10, e10⟩ := al g9 hA9 hq5 (.lst (xs.take j ++ xs.drop (j + 2) ++ [.ref t]))
            walk_at "go"
            refine ⟨(xs.take j ++ xs.drop (j + 2) ++ [V.ref t]).length, ?_, _, q5, _, ds.take j ++ ds.drop (j + 2) ++ [.pr d e], _, _, rfl, rfl, g10, hA10, e10, RepL.mono s10 (((rl9.take j).append (rl9.drop (j + 2))).append (show RepL K B9 [V.ref t] [Dd.pr d e] from ⟨rt, True.intro⟩)), ?_, ?_⟩
            · simp only [List.length_append, List.length_take, List.length_drop, List.length_singleton]; omega
            · simp only [List.length_append, List.length_singleton]; omega
            · have es := siz_split ds j d e hd he
              rw [sizL_append, sizL_append, sizL_cons]
              simp only [List.length_append, List.length_take, List.length_drop, List.length_singleton, Dd.siz]
              have : sizL [] = 0 := rfl
              omega
          · walk_at "go"
            refine i_lenL (SqL.of (g3.bh _ _ hp)) ?_
            walk_at "go"
            refine i_case (fun c => ?_) (fun c => ?_)
            · have hl4 : 3 < xs.length := by have := of_decide_eq_true c; omega
              walk_at "go"
              refine ⟨B3, a, 2, rfl, by decide, by decide, g3.bh, hA3, fun H4 z4 g4 hA4 y0 y1 => ?_⟩
              obtain ⟨i, rfl⟩ : ∃ i : Nat, z4 = (i : Int) := ⟨z4.toNat, by omega⟩
              refine i_rI (.inl ⟨by decide, by decide⟩) ?_
              exact hj _ _ ⟨2 * i, rfl, by omega, g3.trans g4, hA4⟩
            · exact hj _ _ ⟨0, rfl, by omega, g3, hA3⟩
        · walk_at "go"
          refine i_ixL (SqL.of (g3.bh _ _ hp)) (atI_nat (j := 0) (List.getElem?_eq_getElem l0)) ?_
          obtain ⟨d, hd, rd⟩ := rl.get (List.getElem?_eq_getElem l0)
          refine k _ _ _ d g3 hA3 rd ?_
          have : d.siz ≤ sizL ds := by
            cases ds with
            | nil => cases hd
            | cons e r => cases hd; rw [sizL_cons]; omega
          omega
end

end K06
set_option maxRecDepth 100000
set_option maxHeartbeats 2000000
namespace K06
open PySem PySem.Spec PyProof.Rows L2 Us
def rIsEx (K : PySem.W.Frag) (cls : Value) (d : Option Addr) (a : Addr) : List V → Hp → VK → Prop := fun xs H Q => ∃ (D : Addr) (c : V) (cv : Value) (b : Bool), cls = .ref D ∧ d = none ∧ ExcC K D ∧ xs = [.ref a, c] ∧ (∀ u, RelV c u → u = cv) ∧ PySem.W.kitOne K (.ref D) cv = some b ∧ Q (.bl b) H
theorem call_isX {X : Cx} {a : Addr} {oe : Obj} {pn : List (Addr × Obj)} {cls : Value} {d : Option Addr} (hz : Zc cls d oe) (hf : ∃ vs, oe.data = .fields vs) : CallR (X.suite a ((a, oe) :: pn)) (.builtin "isinstance") (rIsEx X.K cls d a) := by
  intro pins s σ H xs us Q I r h
  obtain ⟨D, c, cv, b, rfl, rfl, C, rfl, hu, hk, q⟩ := h
  exact call_isE C hz hf pins s σ H _ us Q I r ⟨c, cv, b, rfl, hu, hk, q⟩
theorem i_isX {K : PySem.W.Frag} {D : Addr} {a : Addr} {c : V} {H : Hp} {Q : VK} {cv : Value} {b : Bool} (C : ExcC K D) (hu : ∀ u, RelV c u → u = cv) (hk : PySem.W.kitOne K (.ref D) cv = some b) (q : Q (.bl b) H) : rIsEx K (.ref D) none a [.ref a, c] H Q := ⟨D, c, cv, b, rfl, rfl, C, rfl, hu, hk, q⟩
def toldS (ok : Bool) : Str := if ok then "let" else "kind"
def Told (K : PySem.W.Frag) (B : Hp) (wh : Int) (v u : V) (ok : Bool) : Prop := (wh = 0 ∧ ∃ d, RepD K B d v ∧ d.siz ≤ 100000 ∧ ok = d.good) ∨ (wh = 1 ∧ ∃ d, RepD K B d v ∧ d.siz ≤ 100000 ∧ ok = d.good) ∨ (wh = 2 ∧ ∃ lo e, RepLo K B lo v ∧ RepD K B e u ∧ ok = okB lo u)
def spTold (K : PySem.W.Frag) : Sp := fun vs H Q _ => ∃ B wh v u ok, vs = [.int wh, v, u] ∧ Same B H ∧ Told K B wh v u ok ∧ ∀ B' H', Gr [] B H B' H' → Q (.str (toldS ok)) H'
section
variable {P : Program} {w : World} {K : PySem.W.Frag} {mg : Str → Option Value} {base : Heap}
theorem ok_told (T : Txt K mg) (Dlefts : DefOk P w K mg base (L2.CX P w) 5 "lefts" p_lefts (spLefts K)) (Dend : DefOk P w K mg base (L2.CX P w) 5 "end" p_end (spEnd K)) (Dbuilt : DefOk P w K mg base (L2.CX P w) 5 "built" p_built (spBuilt K)) :
    DefOk P w K mg base CX0 6 "_law_told" p_law_told (spTold K) := by
  refine T.d_law_told.ok sc_law_told (fun _ _ _ _ _ _ us hl => match us, hl with | [_, _, _], _ => rfl) (fun vs H Q E h => ?_) (fun f cdv A outer s H vs Q E hr h => ?_)
  · obtain ⟨B, wh, v, u, ok, rfl, _⟩ := h
    rfl
  · obtain ⟨B, wh, v, u, ok, rfl, hS, ht, k⟩ := h
    refine ⟨_, PSs.nox (pss_cons (ps_set (i := 3) sc_law_told.nd rfl (Or.inl rfl) pe_str)
    (pss_cons (ps_try_as (i := 4) (Wout := fun _ _ _ _ => False) rfl rfl sc_law_told.nd rfl rfl ⟨rfl, by decide, Or.inl T.g_CountsError⟩ takes0
      (fun W pn xe tk _ => (pss_cons (ps_if (pt_cmpR op_eq (pv 0) pe_int (nomark _))
        (pss_one (ps_expr (pe_callDS Dlefts (hr.mono (by decide)) rfl (fun σ => passAt tk σ) (pa_cons (pv 1) pa_nil))))
        (pss_one (ps_if (pt_cmpR op_eq (pv 0) pe_int (nomark _))
          (pss_one (ps_expr (pe_callDS Dend (hr.mono (by decide)) rfl (fun σ => passAt tk σ) (pa_cons (pv 1) pa_nil))))
          (pss_one (ps_expr (pe_callDS Dbuilt (hr.mono (by decide)) rfl (fun σ => passAt tk σ) (pa_cons (pv 1) (pa_cons (pv 2) pa_nil))))))))
      (pss_one (ps_set (i := 3) sc_law_told.nd rfl (Or.inl rfl) pe_str))))
      (fun a oe cls d pn hz hf => (pss_one (ps_set (i := 3) sc_law_told.nd rfl (Or.inl rfl) (pe_ifExp (PW.pt (pw_and (pt_val (pe_callB (call_isX hz hf) (by rfl) T.f_isinstance (by decide +kernel) (pa_cons (pv 4) (pa_cons (pe_glob (v := .ref (He.ga K "NoKind")) rfl T.g_NoKind rfl) pa_nil)))) (pw_and1 (pt_val (pe_callB (call_isX hz hf) (by rfl) T.f_isinstance (by decide +kernel) (pa_cons (pv 4) (pa_cons (pe_bltn (v := .ty "ValueError") (by rfl) T.f_ValueError (by decide +kernel) rfl) pa_nil))))))) pe_str pe_str)))))
    (pss_one (ps_ret (pv 3))))), ?_⟩
    walk_at "go"
    rcases ht with ⟨rfl, d, rd, hz, rfl⟩ | ⟨rfl, d, rd, hz, rfl⟩ | ⟨rfl, lo, e, rlo, re, rfl⟩
    · refine iteT ?_
      walk_at "go"
      refine ⟨B, v, d, rfl, hS, rd, hz, fun B' H' g => ⟨fun gd p xs hp hl => ?_, fun gd => ?_⟩⟩
      · rw [gd] at k
        walk_at "go"
        exact k _ _ g
      · rw [gd] at k
        refine ⟨true, T.exm, fun _ ax _ => ?_, fun q => nomatch q⟩
        walk_at "go"
        refine i_isX T.c_NoKind (fun u r => r) T.k_NN ?_
        walk_at "go"
        refine i_isX T.c_NoKind (fun u r => r) T.k_NV ?_
        walk_at "go"
        exact k _ _ g
    · refine iteF ?_
      walk_at "go"
      refine iteT ?_
      walk_at "go"
      refine ⟨B, v, d, rfl, hS, rd, hz, fun B' H' g => ⟨fun gd v' hv => ?_, fun gd => ?_⟩⟩
      · rw [gd] at k
        walk_at "go"
        exact k _ _ g
      · rw [gd] at k
        refine ⟨true, T.exm, fun _ ax _ => ?_, fun q => nomatch q⟩
        walk_at "go"
        refine i_isX T.c_NoKind (fun u r => r) T.k_NN ?_
        walk_at "go"
        refine i_isX T.c_NoKind (fun u r => r) T.k_NV ?_
        walk_at "go"
        exact k _ _ g
    · refine iteF ?_
      walk_at "go"
      refine iteF ?_
      walk_at "go"
      refine ⟨B, v, u, lo, e, rfl, hS, rlo, re, fun B' H' g => ⟨fun gd ds v' el rv => ?_, fun gd => ?_⟩⟩
      · rw [gd] at k
        walk_at "go"
        exact k _ _ g
      · rw [gd] at k
        refine ⟨true, T.exm, fun _ ax _ => ?_, fun q => nomatch q⟩
        walk_at "go"
        refine i_isX T.c_NoKind (fun u r => r) T.k_NN ?_
        walk_at "go"
        refine i_isX T.c_NoKind (fun u r => r) T.k_NV ?_
        walk_at "go"
        exact k _ _ g
end

end K06
set_option maxRecDepth 100000
set_option maxHeartbeats 2000000
namespace K06
open PySem PySem.Spec PyProof.Rows L2 Us
def toT : Dd → TT
  | .pr a b => .tup (.cons (toT a) (.cons (toT b) .nil))
  | .int i => .v (.int i)
  | .odd => .v .non
def toTL : List Dd → TT
  | [] => .nil
  | d :: ds => .cons (toT d) (toTL ds)
theorem toT_it (d : Dd) : (toT d).isIt = true := by cases d <;> rfl
theorem toTL_it (ds : List Dd) : (toTL ds).isIt = false := by cases ds <;> rfl
theorem toT_dep : ∀ d : Dd, (toT d).dep = d.dep
  | .pr a b => by
    have h1 := toT_dep a
    have h2 := toT_dep b
    simp only [toT, TT.dep, Dd.dep]
    omega
  | .int i => rfl
  | .odd => rfl
theorem toTL_dep (n : Nat) : ∀ ds : List Dd, (∀ d ∈ ds, d.dep ≤ n) → (toTL ds).dep ≤ n
  | [], _ => Nat.zero_le _
  | d :: ds, h => by
    have h1 := h d List.mem_cons_self
    have h2 := toTL_dep n ds fun e he => h e (List.mem_cons_of_mem _ he)
    simp only [toTL, TT.dep, toT_dep]
    omega
section
variable {K : PySem.W.Frag} {B : Hp}
theorem rep_of : ∀ {d : Dd} {v : V}, RepD K B d v → d.good = true → Rep B (toT d) [v]
  | .pr a b, v, h, g => by
    obtain ⟨p, x, y, rfl, hp, ha, hb⟩ := h
    simp only [Dd.good, Bool.and_eq_true] at g
    exact ⟨p, [x, y], rfl, hp, by simp, rfl, x, [y], rfl, ⟨toT_it a, rfl⟩, rep_of ha g.1, y, [], rfl, ⟨toT_it b, rfl⟩, rep_of hb g.2, rfl⟩
  | .int i, v, h, g => by cases h; exact ⟨rfl, rfl⟩
  | .odd, v, h, g => by cases g
theorem repL_of : ∀ {ds : List Dd} {xs : List V}, RepL K B xs ds → goodL ds = true → Rep B (toTL ds) xs
  | [], [], h, g => rfl
  | d :: ds, x :: xs, h, g => by
    simp only [goodL, List.all_cons, Bool.and_eq_true] at g
    exact ⟨x, xs, rfl, ⟨toT_it d, toTL_it ds⟩, rep_of h.1 g.1, repL_of h.2 g.2⟩
  | [], _ :: _, h, _ => h.elim
  | _ :: _, [], h, _ => h.elim
theorem repT_of {ds : List Dd} {xs : List V} {p : Addr} (hp : B p = some (.tup xs)) (h : RepL K B xs ds) (g : goodL ds = true) (hn : ds.length ≤ 100000) : Rep B (.tup (toTL ds)) [.ref p] := ⟨p, xs, rfl, hp, by rw [h.len]; exact hn, toTL_it ds, repL_of h g⟩
end
theorem good_lefts : ∀ {d : Dd}, d.good = true → goodL d.lefts = true
  | .pr a b, h => by
    simp only [Dd.good, Bool.and_eq_true] at h
    have := good_lefts h.2
    simp only [Dd.lefts, goodL, List.all_cons, h.1, Bool.true_and] at *
    exact this
  | .int i, h => rfl
  | .odd, h => rfl
theorem dep_lefts : ∀ {d : Dd}, ∀ e ∈ d.lefts, e.dep ≤ d.dep
  | .pr a b, e, h => by
    simp only [Dd.dep]
    rcases List.mem_cons.mp h with rfl | h
    · omega
    · have := dep_lefts (d := b) e h
      omega
  | .int i, e, h => by cases h
  | .odd, e, h => by cases h
theorem mk_lefts : ∀ d : Dd, mkD d.lefts d.last = d
  | .pr a b => by
    show Dd.pr a (mkD b.lefts b.last) = Dd.pr a b
    rw [mk_lefts b]
  | .int i => rfl
  | .odd => rfl
theorem len_lefts : ∀ d : Dd, d.lefts.length ≤ d.dep
  | .pr a b => by
    have := len_lefts b
    simp only [Dd.lefts, Dd.dep, List.length_cons]
    omega
  | .int i => Nat.zero_le _
  | .odd => Nat.zero_le _
theorem siz_le : ∀ d : Dd, d.siz + 1 ≤ 2 ^ (d.dep + 1)
  | .pr a b => by
    have h1 := siz_le a
    have h2 := siz_le b
    have e1 : 2 ^ (a.dep + 1) ≤ 2 ^ (max a.dep b.dep + 1) := Nat.pow_le_pow_right (by decide) (by omega)
    have e2 : 2 ^ (b.dep + 1) ≤ 2 ^ (max a.dep b.dep + 1) := Nat.pow_le_pow_right (by decide) (by omega)
    have e3 : 2 ^ (1 + max a.dep b.dep + 1) = 2 * 2 ^ (max a.dep b.dep + 1) := by rw [show 1 + max a.dep b.dep + 1 = (max a.dep b.dep + 1) + 1 by omega, Nat.pow_succ]; omega
    simp only [Dd.siz, Dd.dep]
    omega
  | .int i => by show 1 + 1 ≤ 2 ^ (0 + 1); decide
  | .odd => by show 1 + 1 ≤ 2 ^ (0 + 1); decide
theorem al2 {B H : Hp} {a p : Addr} (S : Same B H) (hA : HandAt B H a) (hp : H p = none) (o : HO) : Same B (upd B p o) ∧ Same (upd B p o) (upd H p o) ∧ HandAt (upd B p o) (upd H p o) a ∧ upd B p o p = some o :=
  ⟨Same.new (bfresh S hp), S.both, hA.new S hp, upd_same⟩
theorem inB_odd {K : PySem.W.Frag} {B : Hp} {v : V} (h : RepD K B .odd v) : inB 0 25 v = false := by rw [h.inB]
theorem shp3 (s : Str) (h : PyData.strOk s = true) : SeqAt.shaped (.list [.str s, .str s, .str s]) = true := by
  simp [SeqAt.shaped, PyData.canLay0, PyData.depth, PyData.canLayAll0, PyData.depthAll, h]
theorem eqv3 (s : Str) : PyData.eqv (.list [.str s, .str s, .str s]) (.list [.str s, .str s, .str s]) = true := by
  simp [PyData.eqv, PyData.eqvAll]
theorem cnt_siz : ∀ d : Dd, d.cnt ≤ d.siz
  | .pr a b => by
    have h1 := cnt_siz a
    have h2 := cnt_siz b
    simp only [Dd.siz, Dd.cnt]
    omega
  | .int i => Nat.le_refl _
  | .odd => Nat.le_refl _
theorem siz4 {d : Dd} (h : d.dep ≤ 4) : d.siz ≤ 31 := by
  have h1 := siz_le d
  have h2 : 2 ^ (d.dep + 1) ≤ 2 ^ 5 := Nat.pow_le_pow_right (by decide) (by omega)
  omega
theorem ok4 {d : Dd} (h : d.dep ≤ 4) : d.okK = d.good := by
  have h1 := siz4 h
  have h2 := cnt_siz d
  unfold Dd.okK
  rw [decide_eq_true (show d.dep ≤ 30 by omega), decide_eq_true (show d.cnt ≤ 60 by omega), Bool.and_true, Bool.and_true]
def spLaw (K : PySem.W.Frag) : Sp := fun vs H Q _ => ∃ (a : Addr) (ns : List Int), vs = [.ref a] ∧ SqL K H a (ns.map V.int) ∧ ns.length ≤ 63 ∧ ∀ H', Q (.bl true) H'
section
variable {P : Program} {w : World} {K : PySem.W.Frag} {mg : Str → Option Value} {base : Heap}
theorem ok_law (T : Txt K mg)
    (Dlaw_hand : DefOk P w K mg base CX0 1 "_law_hand" p_law_hand (spHand K)) (Dlaw_kind : DefOk P w K mg base CX0 6 "_law_kind" p_law_kind (spKind K 5)) (Dlaw_ends : DefOk P w K mg base CX0 1 "_law_ends" p_law_ends (spEnds K))
    (Dlaw_flag : DefOk P w K mg base CX0 1 "_law_flag" p_law_flag (spFlag K)) (Dis_kind : DefOk P w K mg base CX0 4 "is_kind" p_is_kind (spIsKind K)) (Dlaw_is : DefOk P w K mg base CX0 7 "_law_is" p_law_is (spIs K 6))
    (Dlefts : DefOk P w K mg base (L2.CX P w) 5 "lefts" p_lefts (spLefts K)) (Dend : DefOk P w K mg base (L2.CX P w) 5 "end" p_end (spEnd K)) (Dbuilt : DefOk P w K mg base (L2.CX P w) 5 "built" p_built (spBuilt K))
    (Dlaw_great : DefOk P w K mg base CX0 2 "_law_great" p_law_great (spGreat K)) (Dlaw_bent : DefOk P w K mg base CX0 9 "_law_bent" p_law_bent (spBent K 5)) (Dlaw_deep : DefOk P w K mg base CX0 1 "_law_deep" p_law_deep (spDeep K))
    (Dlaw_is_kind : DefOk P w K mg base CX0 1 "_law_is_kind" p_law_is_kind (spIsKind K)) (Dlaw_told : DefOk P w K mg base CX0 6 "_law_told" p_law_told (spTold K)) (Dlaw_some : DefOk P w K mg base CX0 2 "_law_some" p_law_some (spSome K))
    {f : Addr} {fd : FuncData} (F : FunD K "law" "law" (defArgs s_law) (defBody s_law) (defScope s_law) [] [] f fd) : FnOk P w K mg base CX0 10 f fd p_law (spLaw K) := by
  refine F.ok sc_law (fun vs H Q E h => ?_) (fun cdv A outer s H vs Q E hr h => ?_)
  · obtain ⟨a, ns, rfl, _⟩ := h
    rfl
  · obtain ⟨sc, ns, rfl, hL, hn, k⟩ := h
    refine ⟨_, PSs.nox (pss_cons (ps_set (i := 1) sc_law.nd rfl (Or.inl rfl) (pe_callD Dlaw_hand (hr.mono (by first | decide | omega)) rfl pass0 (pa_cons (pv 0) pa_nil)))
    (pss_cons (ps_for PassesOwn.never rfl (pi_range1 (by rfl) T.f_range (pa_cons pe_int pa_nil)) (pg_name (i := 2) sc_law.nd rfl (Or.inl rfl))
      (pss_cons (ps_set (i := 3) sc_law.nd rfl (Or.inl rfl) (pe_callD Dlaw_kind (hr.mono (by first | decide | omega)) rfl pass0 (pa_cons (pv 1) (pa_cons pe_int pa_nil))))
      (pss_cons (ps_set (i := 4) sc_law.nd rfl (Or.inl rfl) (pe_callD Dlaw_ends (hr.mono (by first | decide | omega)) rfl pass0 (pa_cons (pv 3) pa_nil)))
      (pss_cons (ps_if (PW.pt (pw_or (pt_not (pt_val (pe_callD Dlaw_flag (hr.mono (by first | decide | omega)) rfl pass0 (pa_cons (pe_callD Dis_kind (hr.mono (by first | decide | omega)) rfl pass0 (pa_cons (pv 3) pa_nil)) (pa_cons pe_bl pa_nil))))) (pw_or1 (pt_not (pt_val (pe_callD Dlaw_is (hr.mono (by first | decide | omega)) rfl pass0 (pa_cons (pe_callD Dlefts (hr.mono (by first | decide | omega)) rfl passL (pa_cons (pv 3) pa_nil)) (pa_cons (pe_callTy call_tupU (by rfl) T.f_tuple (by decide +kernel) (pa_cons (pe_ix ix_tup (pv 4) pe_int (fun _ _ => rfl)) pa_nil)) pa_nil))))))))
        (pss_one (ps_ret pe_bl))
        pss_nil)
      (pss_cons (ps_if (PW.pt (pw_or (pt_not (pt_val (pe_callD Dlaw_is (hr.mono (by first | decide | omega)) rfl pass0 (pa_cons (pe_callD Dend (hr.mono (by first | decide | omega)) rfl passL (pa_cons (pv 3) pa_nil)) (pa_cons (pe_ix ix_tup (pv 4) pe_int (fun _ _ => rfl)) pa_nil))))) (pw_or1 (pt_not (pt_val (pe_callD Dlaw_is (hr.mono (by first | decide | omega)) rfl pass0 (pa_cons (pe_callD Dbuilt (hr.mono (by first | decide | omega)) rfl passL (pa_cons (pe_callD Dlefts (hr.mono (by first | decide | omega)) rfl passL (pa_cons (pv 3) pa_nil)) (pa_cons (pe_callD Dend (hr.mono (by first | decide | omega)) rfl passL (pa_cons (pv 3) pa_nil)) pa_nil))) (pa_cons (pv 3) pa_nil))))))))
        (pss_one (ps_ret pe_bl))
        pss_nil)
      (pss_cons (ps_for PassesOwn.never rfl (pi_list (pe_lst (pa_cons (pe_callD Dlaw_great (hr.mono (by first | decide | omega)) rfl pass0 (pa_cons (pv 1) pa_nil)) (pa_cons (pe_callD Dlaw_bent (hr.mono (by first | decide | omega)) rfl pass0 (pa_cons (pv 1) (pa_cons (pv 3) pa_nil))) (pa_cons (pe_callD Dlaw_bent (hr.mono (by first | decide | omega)) rfl pass0 (pa_cons (pv 1) (pa_cons (pv 3) pa_nil))) (pa_cons (pe_callD Dlaw_deep (hr.mono (by first | decide | omega)) rfl pass0 (pa_cons pe_int pa_nil)) (pa_cons (pe_callD Dlaw_deep (hr.mono (by first | decide | omega)) rfl pass0 (pa_cons pe_int pa_nil)) pa_nil))))))) (pg_name (i := 5) sc_law.nd rfl (Or.inl rfl))
        (pss_one (ps_if (pt_not (pt_val (pe_callD Dlaw_flag (hr.mono (by first | decide | omega)) rfl pass0 (pa_cons (pe_callD Dis_kind (hr.mono (by first | decide | omega)) rfl pass0 (pa_cons (pv 5) pa_nil)) (pa_cons (pe_callD Dlaw_is_kind (hr.mono (by first | decide | omega)) rfl pass0 (pa_cons (pv 5) pa_nil)) pa_nil)))))
          (pss_one (ps_ret pe_bl))
          pss_nil)))
      (pss_cons (ps_set (i := 5) sc_law.nd rfl (Or.inl rfl) (pe_callD Dlaw_bent (hr.mono (by first | decide | omega)) rfl pass0 (pa_cons (pv 1) (pa_cons (pv 3) pa_nil))))
      (pss_cons (ps_set (i := 6) sc_law.nd rfl (Or.inl rfl) (pe_ix ix_list (pe_lst (pa_cons pe_str (pa_cons pe_str pa_nil))) (pe_callTy call_intU (by rfl) T.f_int (by decide +kernel) (pa_cons (pe_callD Dlaw_is_kind (hr.mono (by first | decide | omega)) rfl pass0 (pa_cons (pv 5) pa_nil)) pa_nil)) (fun _ _ => rfl)))
      (pss_cons (ps_if (pt_cmpR (op_neD hr.units) (pe_lst (pa_cons (pe_callD Dlaw_told (hr.mono (by first | decide | omega)) rfl pass0 (pa_cons pe_int (pa_cons (pv 5) (pa_cons pe_non pa_nil)))) (pa_cons (pe_callD Dlaw_told (hr.mono (by first | decide | omega)) rfl pass0 (pa_cons pe_int (pa_cons (pv 5) (pa_cons pe_non pa_nil)))) (pa_cons (pe_callD Dlaw_told (hr.mono (by first | decide | omega)) rfl pass0 (pa_cons pe_int (pa_cons (pe_tup (pa_cons (pv 3) (pa_cons (pv 5) pa_nil))) (pa_cons pe_int pa_nil)))) pa_nil)))) (pe_op op_rep (pe_lst (pa_cons (pv 6) pa_nil)) pe_int) (nomark _))
        (pss_one (ps_ret pe_bl))
        pss_nil)
      (pss_cons (ps_set (i := 7) sc_law.nd rfl (Or.inl rfl) (pe_callD Dlaw_some (hr.mono (by first | decide | omega)) rfl pass0 (pa_cons (pv 1) (pa_cons (pe_lst (pa_cons pe_int (pa_cons (pe_un un_neg pe_int) (pa_cons pe_bl (pa_cons pe_non (pa_cons pe_str (pa_cons (pe_tup (pa_cons pe_int (pa_cons pe_int pa_nil))) (pa_cons (pe_lst (pa_cons pe_int pa_nil)) (pa_cons (pe_callD Dlaw_deep (hr.mono (by first | decide | omega)) rfl pass0 (pa_cons pe_int pa_nil)) pa_nil))))))))) pa_nil))))
      (pss_cons (ps_if (PW.pt (pw_or (pt_cmpR op_ne (pe_callD Dlaw_told (hr.mono (by first | decide | omega)) rfl pass0 (pa_cons pe_int (pa_cons (pe_tup (pa_cons (pv 3) pa_nil)) (pa_cons (pv 7) pa_nil)))) pe_str (nomark _)) (pw_or1 (pt_cmpR op_ne (pe_callD Dlaw_told (hr.mono (by first | decide | omega)) rfl pass0 (pa_cons pe_int (pa_cons (pe_callD Dlaw_some (hr.mono (by first | decide | omega)) rfl pass0 (pa_cons (pv 1) (pa_cons (pe_lst (pa_cons (pe_lst (pa_cons (pv 3) pa_nil)) (pa_cons pe_non (pa_cons pe_int (pa_cons pe_dnewK pa_nil))))) pa_nil))) (pa_cons pe_int pa_nil)))) pe_str (nomark _)))))
        (pss_one (ps_ret pe_bl))
        pss_nil)
      (pss_one (ps_if (PW.pt (pw_or (pt_cmpR op_ne (pe_callD Dlaw_told (hr.mono (by first | decide | omega)) rfl pass0 (pa_cons pe_int (pa_cons (pe_tup pa_nil) (pa_cons pe_int pa_nil)))) pe_str (nomark _)) (pw_or1 (pt_cmpR op_ne (pe_callD Dlaw_told (hr.mono (by first | decide | omega)) rfl pass0 (pa_cons pe_int (pa_cons (pe_tup (pa_cons (pv 3) pa_nil)) (pa_cons pe_int pa_nil)))) pe_str (nomark _)))))
        (pss_one (ps_ret pe_bl))
        pss_nil)))))))))))))
    (pss_one (ps_ret pe_bl)))), ?_⟩
    walk_at "go"
    refine ⟨sc, ns, rfl, hL, hn, fun B0 H0 a g0 _ hA0 => ?_⟩
    walk_at "go"
    refine ⟨4, rfl, by decide, by decide, for_range (lo := 0) (n := 4) (fun i σ H' => ∃ B' v2 v3 v4 v5 v6 v7, σ = [some (.ref sc), some (.ref a), v2, v3, v4, v5, v6, v7] ∧ Same B' H' ∧ HandAt B' H' a) ⟨B0, none, none, none, none, none, none, rfl, g0.bh, hA0⟩ ?_ ?_⟩
    · rintro i σ H1 hi ⟨B1, v2, v3, v4, v5, v6, v7, rfl, S1, hA1⟩
      clear hA0 g0
      walk_at "go"
      refine ⟨B1, a, 4, rfl, by decide, S1, hA1, fun B2 H2 vk dk g2 hA2 rk gk dd => ?_⟩
      have zk := siz4 dd
      walk_at "go"
      refine ⟨B2, vk, dk, rfl, g2.bh, rk, by omega, gk, fun B3 H3 pe le xe ve g3 hpe hle re rv => ?_⟩
      have hA3 := hA2.mono g3 (by simp)
      have rk := rk.mono g3.bb
      walk_at "go"
      refine ⟨B3, vk, dk, rfl, g3.bh, rk, by omega, fun B4 H4 g4 => ?_⟩
      have hA4 := hA3.mono g4 (by simp)
      have rk := rk.mono g4.bb
      rw [ok4 dd, gk]
      walk_at "go"
      refine ⟨true, true, rfl, ?_⟩
      refine i_bl ?_
      refine iteF ?_
      walk_at "go"
      have bad : ∀ {p : Prop}, dk.good = false → p := fun e => by rw [gk] at e; cases e
      refine ⟨B4, vk, dk, rfl, g4.bh, rk, by omega, fun B5 H5 g5 => ⟨fun _ p1 xs1 hp1 rl1 => ?_, fun e => bad e⟩⟩
      have hA5 := hA4.mono g5 (by simp)
      have rk := rk.mono g5.bb
      have s35 : Same B3 B5 := g4.bb.trans g5.bb
      have hpe := s35 _ _ hpe
      have hle := s35 _ _ hle
      have re := re.mono s35
      have rv := rv.mono s35
      clear hA4 hA3 hA2 hA1
      walk_at "go"
      refine i_ixT (SqT.of (g5.bh _ _ hpe)) atI0 ?_
      walk_at "go"
      refine i_tupL (SqL.of (g5.bh _ _ hle)) fun q hq => ?_
      obtain ⟨s6, S6, hA6, e6⟩ := al2 g5.bh hA5 hq (.tup xe)
      have rk := rk.mono s6
      have hpe := s6 _ _ hpe
      have hp1 := s6 _ _ hp1
      have rl1 := rl1.mono s6
      have re := re.mono s6
      have rv := rv.mono s6
      generalize upd B5 q (.tup xe) = B6 at *
      generalize upd H5 q (.tup xe) = H6 at *
      have gl := good_lefts gk
      have ll := len_lefts dk
      have dl := toTL_dep 4 dk.lefts fun e he => Nat.le_trans (dep_lefts e he) dd
      walk_at "go"
      refine ⟨B6, _, _, .tup (toTL dk.lefts), rfl, S6, rfl, repT_of hp1 rl1 gl (by omega), repT_of e6 re gl (by omega), by simp only [TT.dep]; omega, fun B7 H7 g7 => ?_⟩
      have hA7 := hA6.mono g7 (by simp)
      have rk := rk.mono g7.bb
      have hpe := g7.bb _ _ hpe
      have rv := rv.mono g7.bb
      walk_at "go"
      refine iteF ?_
      walk_at "go"
      clear hA5 hA6 g5 S6 hp1 rl1 e6 re hle
      refine ⟨B7, vk, dk, rfl, g7.bh, rk, by omega, fun B8 H8 g8 => ⟨fun _ ve1 rve1 => ?_, fun e => bad e⟩⟩
      have hA8 := hA7.mono g8 (by simp)
      have rk := rk.mono g8.bb
      have hpe := g8.bb _ _ hpe
      have rv := rv.mono g8.bb
      obtain ⟨li, el, l0, l1⟩ := good_last gk
      have glast : dk.last.good = true := by rw [el]; simp only [Dd.good]; rw [decide_eq_true l0, decide_eq_true l1]; rfl
      walk_at "go"
      refine i_ixT (SqT.of (g8.bh _ _ hpe)) atI1 ?_
      walk_at "go"
      refine ⟨B8, _, _, toT dk.last, rfl, g8.bh, toT_it _, rep_of rve1 glast, rep_of rv glast, by rw [toT_dep, el]; show 0 < 6; decide, fun B9 H9 g9 => ?_⟩
      have hA9 := hA8.mono g9 (by simp)
      have rk := rk.mono g9.bb
      walk_at "go"
      refine iteF ?_
      walk_at "go"
      clear hA7 hA8 g7 g8 hpe rv rve1
      refine ⟨B9, vk, dk, rfl, g9.bh, rk, by omega, fun B10 H10 g10 => ⟨fun _ p2 xs2 hp2 rl2 => ?_, fun e => bad e⟩⟩
      have hA10 := hA9.mono g10 (by simp)
      have rk := rk.mono g10.bb
      walk_at "go"
      refine ⟨B10, vk, dk, rfl, g10.bh, rk, by omega, fun B11 H11 g11 => ⟨fun _ ve2 rve2 => ?_, fun e => bad e⟩⟩
      have hA11 := hA10.mono g11 (by simp)
      have rk := rk.mono g11.bb
      have hp2 := g11.bb _ _ hp2
      have rl2 := rl2.mono g11.bb
      have okb : okB (some dk.lefts) ve2 = true := by
        have e2 : inB 0 25 ve2 = true := by rw [rve2.inB, el]; show (decide (0 ≤ li) && decide (li ≤ 25)) = true; rw [decide_eq_true l0, decide_eq_true l1]; rfl
        show (goodL dk.lefts && inB 0 25 ve2) = true
        rw [gl, e2]; rfl
      walk_at "go"
      refine ⟨B11, _, ve2, some dk.lefts, dk.last, rfl, g11.bh, ⟨p2, xs2, rfl, hp2, rl2, by omega, fun e he => by have := siz4 (Nat.le_trans (dep_lefts e he) dd); omega⟩, rve2, fun B12 H12 g12 => ⟨fun _ ds vb eds rvb => ?_, fun e => by rw [okb] at e; cases e⟩⟩
      have hA12 := hA11.mono g12 (by simp)
      have rk := rk.mono g12.bb
      cases eds
      rw [mk_lefts] at rvb
      walk_at "go"
      refine ⟨B12, vb, vk, toT dk, rfl, g12.bh, toT_it _, rep_of rvb gk, rep_of rk gk, by rw [toT_dep]; omega, fun B13 H13 g13 => ?_⟩
      have hA13 := hA12.mono g13 (by simp)
      have rk := rk.mono g13.bb
      walk_at "go"
      refine iteF ?_
      clear hA9 hA10 hA11 hA12 g9 g10 g11 hp2 rl2 rve2 okb rvb
      refine i_next ?_
      walk_at "go"
      refine ⟨B13, a, rfl, g13.bh, hA13, fun B14 H14 t1 d1 g14 hA14 r1 z1 => ?_⟩
      have rk := rk.mono g14.bb
      walk_at "go"
      refine ⟨B14, a, vk, dk, rfl, g14.bh, hA14, rk, gk, by omega, fun B15 H15 t2 d2 g15 hA15 r2 dd2 => ?_⟩
      have rk := rk.mono g15.bb
      have r1 := r1.mono g15.bb
      walk_at "go"
      refine ⟨B15, a, vk, dk, rfl, g15.bh, hA15, rk, gk, by omega, fun B16 H16 t3 d3 g16 hA16 r3 dd3 => ?_⟩
      have rk := rk.mono g16.bb
      have r1 := r1.mono g16.bb
      have r2 := r2.mono g16.bb
      walk_at "go"
      refine ⟨B16, 1, rfl, g16.bh, fun B17 H17 t4 g17 r4 => ?_⟩
      have hA17 := hA16.mono g17 (by simp)
      have rk := rk.mono g17.bb
      have r1 := r1.mono g17.bb
      have r2 := r2.mono g17.bb
      have r3 := r3.mono g17.bb
      walk_at "go"
      refine ⟨B17, 0, rfl, g17.bh, fun B18 H18 t5 g18 r5 => ?_⟩
      have hA18 := hA17.mono g18 (by simp)
      have rk := rk.mono g18.bb
      have r1 := r1.mono g18.bb
      have r2 := r2.mono g18.bb
      have r3 := r3.mono g18.bb
      have r4 := r4.mono g18.bb
      clear hA13 hA14 hA15 hA16 hA17 g14 g15 g16 g17
      walk_at "go"
      refine ⟨sz5 (by simp), fun pl hpl => ?_⟩
      obtain ⟨s19, S19, hA19, e19⟩ := al2 g18.bh hA18 hpl (.lst [t1, t2, t3, t4, t5])
      have rk := rk.mono s19
      have rl5 : RepL K _ [t1, t2, t3, t4, t5] [d1, d2, d3, .odd, .odd] := ⟨r1.mono s19, r2.mono s19, r3.mono s19, r4.mono s19, r5.mono s19, True.intro⟩
      have z5 : ∀ e ∈ [d1, d2, d3, Dd.odd, Dd.odd], e.siz ≤ 100000 := by
        intro e he
        simp only [List.mem_cons, List.not_mem_nil, or_false] at he
        rcases he with rfl | rfl | rfl | rfl | rfl
        · exact z1
        · have := siz4 (Nat.le_trans dd2 dd); omega
        · have := siz4 (Nat.le_trans dd3 dd); omega
        · decide
        · decide
      generalize [t1, t2, t3, t4, t5] = ts at *
      generalize [d1, d2, d3, Dd.odd, Dd.odd] = ds at *
      generalize upd B18 pl (.lst ts) = B19 at *
      generalize upd H18 pl (.lst ts) = H19 at *
      refine ⟨pl, rfl, ⟨_, SqL.of (S19 _ _ e19)⟩, for_list (K := K) (a := pl) (xs := ts) (fun i' σ H' => ∃ B' v5, σ = [some (.ref sc), some (.ref a), some (.int (0 + (i : Int))), some vk, some (.ref pe), v5, v6, v7] ∧ Same B' H' ∧ HandAt B' H' a ∧ Same B19 B')
        ⟨B19, v5, rfl, S19, hA19, Same.refl _⟩ (fun i' σ H' _ ⟨_, _, _, S, _, s⟩ => SqL.of (S _ _ (s _ _ e19))) ?_ ?_⟩
      · rintro i' x σ H' hx ⟨B', v5', rfl, S, hA', s'⟩
        obtain ⟨e, he, rex⟩ := rl5.get hx
        have ze := z5 e (List.mem_of_getElem? he)
        have rex := rex.mono s'
        walk_at "go"
        refine ⟨B', x, e, rfl, S, rex, ze, fun B20 H20 g20 => ?_⟩
        have hA20 := hA'.mono g20 (by simp)
        walk_at "go"
        refine ⟨B20, x, e, rfl, g20.bh, rex.mono g20.bb, ze, fun B21 H21 g21 => ?_⟩
        have hA21 := hA20.mono g21 (by simp)
        walk_at "go"
        refine ⟨e.okK, e.okK, rfl, ?_⟩
        have eb : (e.okK == e.okK) = true := by simp
        rw [eb]
        refine i_bl ?_
        refine iteF ?_
        exact ⟨B21, _, rfl, g21.bh, hA21, (s'.trans g20.bb).trans g21.bb⟩
      rintro σ H' ⟨B', v5', rfl, S, hA', s'⟩
      have rk := rk.mono s'
      clear hA18 g18 S19 hA19 r1 r2 r3 r4 r5 rl5 z5 z1 dd2 dd3
      walk_at "go"
      refine ⟨B', a, vk, dk, rfl, S, hA', rk, gk, by omega, fun B22 H22 tv dt g22 hA22 rt ddt => ?_⟩
      have rk := rk.mono g22.bb
      have dt4 := Nat.le_trans ddt dd
      have zt := siz4 dt4
      walk_at "go"
      refine ⟨sz5 (by simp), fun p23 hp23 => ?_⟩
      obtain ⟨s23, S23, hA23, e23⟩ := al2 g22.bh hA22 hp23 (.lst [.str "kind", .str "let"])
      have rk := rk.mono s23
      have rt := rt.mono s23
      generalize upd B22 p23 (.lst [.str "kind", .str "let"]) = B23 at *
      generalize upd H22 p23 (.lst [.str "kind", .str "let"]) = H23 at *
      walk_at "go"
      refine ⟨B23, tv, dt, rfl, S23, rt, by omega, fun B24 H24 g24 => ?_⟩
      have hA24 := hA23.mono g24 (by simp)
      have rk := rk.mono g24.bb
      have rt := rt.mono g24.bb
      rw [ok4 dt4]
      walk_at "go"
      have edue : atI [V.str "kind", .str "let"] (if dt.good then 1 else 0) = some (.str (toldS dt.good)) := by
        cases dt.good with
        | true => exact atI1
        | false => exact atI0
      refine i_ixL (SqL.of (g24.bh _ _ (g24.bb _ _ e23))) edue ?_
      walk_at "go"
      refine ⟨B24, 0, tv, .non, dt.good, rfl, g24.bh, .inl ⟨rfl, dt, rt, by omega, rfl⟩, fun B25 H25 g25 => ?_⟩
      have hA25 := hA24.mono g25 (by simp)
      have rk := rk.mono g25.bb
      have rt := rt.mono g25.bb
      walk_at "go"
      refine ⟨B25, 1, tv, .non, dt.good, rfl, g25.bh, .inr (.inl ⟨rfl, dt, rt, by omega, rfl⟩), fun B26 H26 g26 => ?_⟩
      have hA26 := hA25.mono g26 (by simp)
      have rk := rk.mono g26.bb
      have rt := rt.mono g26.bb
      walk_at "go"
      refine ⟨sz5 (by simp), fun p27 hp27 => ?_⟩
      obtain ⟨s27, S27, hA27, e27⟩ := al2 g26.bh hA26 hp27 (.tup [vk, tv])
      have rk := rk.mono s27
      have rt := rt.mono s27
      generalize upd B26 p27 (.tup [vk, tv]) = B27 at *
      generalize upd H26 p27 (.tup [vk, tv]) = H27 at *
      walk_at "go"
      clear hA22 hA23 hA24 hA25 hA26 g22 g24 g25 g26
      have ok2 : okB (some [dk, dt]) (.int 0) = dt.good := by
        show (goodL [dk, dt] && inB 0 25 (.int 0)) = dt.good
        have e0 : inB 0 25 (.int 0) = true := rfl
        rw [e0, Bool.and_true]
        simp [goodL, gk]
      refine ⟨B27, 2, .ref p27, .int 0, dt.good, rfl, S27, .inr (.inr ⟨rfl, some [dk, dt], .int 0, ⟨p27, _, rfl, e27, ⟨rk, rt, True.intro⟩, by simp, fun e he => ?_⟩, rfl, ok2.symm⟩), fun B28 H28 g28 => ?_⟩
      · simp only [List.mem_cons, List.not_mem_nil, or_false] at he
        rcases he with rfl | rfl <;> omega
      have hA28 := hA27.mono g28 (by simp)
      have rk := rk.mono g28.bb
      walk_at "go"
      refine ⟨sz5 (by simp), fun p29 hp29 => ?_⟩
      obtain ⟨s29, S29, hA29, e29⟩ := al2 g28.bh hA28 hp29 (.lst [.str (toldS dt.good), .str (toldS dt.good), .str (toldS dt.good)])
      have rk := rk.mono s29
      generalize upd B28 p29 (.lst [.str (toldS dt.good), .str (toldS dt.good), .str (toldS dt.good)]) = B29 at *
      generalize upd H28 p29 (.lst [.str (toldS dt.good), .str (toldS dt.good), .str (toldS dt.good)]) = H29 at *
      walk_at "go"
      refine ⟨sz5 (by simp), fun p30 hp30 => ?_⟩
      obtain ⟨s30, S30, hA30, e30⟩ := al2 S29 hA29 hp30 (.lst [.str (toldS dt.good)])
      have rk := rk.mono s30
      have e29 := s30 _ _ e29
      generalize upd B29 p30 (.lst [.str (toldS dt.good)]) = B30 at *
      generalize upd H29 p30 (.lst [.str (toldS dt.good)]) = H30 at *
      walk_at "go"
      refine ⟨p30, 3, _, rfl, rfl, S30 _ _ e30, by decide, by decide, sz5 (by simp), fun p31 hp31 => ?_⟩
      have e32 : (List.replicate (Int.toNat 3) [V.str (toldS dt.good)]).flatten = [.str (toldS dt.good), .str (toldS dt.good), .str (toldS dt.good)] := rfl
      rw [e32]
      obtain ⟨s31, S31, hA31, e31⟩ := al2 S30 hA30 hp31 (.lst [.str (toldS dt.good), .str (toldS dt.good), .str (toldS dt.good)])
      have rk := rk.mono s31
      have e29 := s31 _ _ e29
      generalize upd B30 p31 (.lst [.str (toldS dt.good), .str (toldS dt.good), .str (toldS dt.good)]) = B31 at *
      generalize upd H30 p31 (.lst [.str (toldS dt.good), .str (toldS dt.good), .str (toldS dt.good)]) = H31 at *
      have dp : ∀ q, B31 q = some (.lst [.str (toldS dt.good), .str (toldS dt.good), .str (toldS dt.good)]) → Dp K H31 (.ref q) (.list [.str (toldS dt.good), .str (toldS dt.good), .str (toldS dt.good)]) := fun q hq =>
        .lst (SqL.of (S31 _ _ hq)) (.cons (.str _) (.cons (.str _) (.cons (.str _) .nil)))
      have sok : PyData.strOk (toldS dt.good) = true := by cases dt.good <;> decide +kernel
      refine ⟨_, _, dp _ e29, dp _ e31, shp3 _ sok, shp3 _ sok, ?_⟩
      rw [eqv3]
      refine i_bl ?_
      refine iteF ?_
      refine i_next ?_
      clear hA27 hA28 hA29 hA30 g28 S27 S29 S30 dp e29 e31 e30 edue ok2
      walk_at "go"
      refine ⟨sz5 (by simp), fun p32 hp32 => ?_⟩
      obtain ⟨s32, S32, hA32, e32'⟩ := al2 S31 hA31 hp32 (.tup [.int 0, .int 0])
      have rk := rk.mono s32
      generalize upd B31 p32 (.tup [.int 0, .int 0]) = B32 at *
      generalize upd H31 p32 (.tup [.int 0, .int 0]) = H32 at *
      walk_at "go"
      refine ⟨sz5 (by simp), fun p33 hp33 => ?_⟩
      obtain ⟨s33, S33, hA33, e33⟩ := al2 S32 hA32 hp33 (.lst [.int 0])
      have rk := rk.mono s33
      have e32' := s33 _ _ e32'
      generalize upd B32 p33 (.lst [.int 0]) = B33 at *
      generalize upd H32 p33 (.lst [.int 0]) = H33 at *
      walk_at "go"
      refine ⟨B33, 1, rfl, S33, fun B34 H34 t34 g34 r34 => ?_⟩
      have hA34 := hA33.mono g34 (by simp)
      have rk := rk.mono g34.bb
      have e32' := g34.bb _ _ e32'
      have e33 := g34.bb _ _ e33
      walk_at "go"
      refine ⟨sz5 (by simp), fun p35 hp35 => ?_⟩
      obtain ⟨s35', S35, hA35, e35⟩ := al2 g34.bh hA34 hp35 (.lst [.int 26, .int (-1), .bl true, .non, .str "a", .ref p32, .ref p33, t34])
      have rk := rk.mono s35'
      have r34 := r34.mono s35'
      have e32' := s35' _ _ e32'
      have e33 := s35' _ _ e33
      have all35 : ∀ y ∈ [V.int 26, .int (-1), .bl true, .non, .str "a", .ref p32, .ref p33, t34], (∃ e, RepD K (upd B34 p35 (.lst [.int 26, .int (-1), .bl true, .non, .str "a", .ref p32, .ref p33, t34])) e y) ∧ inB 0 25 y = false := by
        intro y hy
        simp only [List.mem_cons, List.not_mem_nil, or_false] at hy
        rcases hy with rfl | rfl | rfl | rfl | rfl | rfl | rfl | rfl
        · exact ⟨⟨.int 26, rfl⟩, rfl⟩
        · exact ⟨⟨.int (-1), rfl⟩, rfl⟩
        · exact ⟨⟨.odd, .bl _, rfl, rfl⟩, rfl⟩
        · exact ⟨⟨.odd, .non, rfl, rfl⟩, rfl⟩
        · exact ⟨⟨.odd, .str _, rfl, rfl⟩, rfl⟩
        · exact ⟨⟨.pr (.int 0) (.int 0), p32, _, _, rfl, e32', rfl, rfl⟩, rfl⟩
        · exact ⟨⟨.odd, odd_lst e33⟩, rfl⟩
        · exact ⟨⟨.odd, r34⟩, inB_odd r34⟩
      have l35 : [V.int 26, .int (-1), .bl true, .non, .str "a", .ref p32, .ref p33, t34].length = 8 := rfl
      generalize [V.int 26, .int (-1), .bl true, .non, .str "a", .ref p32, .ref p33, t34] = os at *
      generalize upd B34 p35 (.lst os) = B35 at *
      generalize upd H34 p35 (.lst os) = H35 at *
      clear hA31 hA32 hA33 hA34 S31 S32 S33 g34 e32' e33 r34
      walk_at "go"
      refine ⟨B35, a, p35, os, rfl, S35, hA35, e35, by omega, by omega, fun H36 y36 g36 hA36 hy36 => ?_⟩
      obtain ⟨⟨e36, r36⟩, i36⟩ := all35 y36 hy36
      walk_at "go"
      refine ⟨sz5 (by simp), fun p37 hp37 => ?_⟩
      obtain ⟨s37, S37, hA37, e37⟩ := al2 g36.bh hA36 hp37 (.tup [vk])
      have rk := rk.mono s37
      have r36 := r36.mono s37
      generalize upd B35 p37 (.tup [vk]) = B37 at *
      generalize upd H36 p37 (.tup [vk]) = H37 at *
      walk_at "go"
      have ok3 : okB (some [dk]) y36 = false := by
        show (goodL [dk] && inB 0 25 y36) = false
        rw [i36, Bool.and_false]
      have zk1 : ∀ e ∈ [dk], e.siz ≤ 100000 := by intro e he; rw [List.mem_singleton.mp he]; omega
      refine ⟨B37, 2, .ref p37, y36, false, rfl, S37, .inr (.inr ⟨rfl, some [dk], e36, ⟨p37, _, rfl, e37, ⟨rk, True.intro⟩, by simp, zk1⟩, r36, ok3.symm⟩), fun B38 H38 g38 => ?_⟩
      have hA38 := hA37.mono g38 (by simp)
      have rk := rk.mono g38.bb
      walk_at "go"
      refine iteF ?_
      walk_at "go"
      refine ⟨sz5 (by simp), fun p39 hp39 => ?_⟩
      obtain ⟨s39, S39, hA39, e39⟩ := al2 g38.bh hA38 hp39 (.lst [vk])
      have rk := rk.mono s39
      generalize upd B38 p39 (.lst [vk]) = B39 at *
      generalize upd H38 p39 (.lst [vk]) = H39 at *
      walk_at "go"
      intro p40 hp40
      obtain ⟨s40, S40, hA40, e40⟩ := al2 S39 hA39 hp40 (.dK [])
      have rk := rk.mono s40
      have e39 := s40 _ _ e39
      generalize upd B39 p40 (.dK []) = B40 at *
      generalize upd H39 p40 (.dK []) = H40 at *
      walk_at "go"
      refine ⟨sz5 (by simp), fun p41 hp41 => ?_⟩
      obtain ⟨s41, S41, hA41, e41⟩ := al2 S40 hA40 hp41 (.lst [.ref p39, .non, .int 0, .ref p40])
      have rk := rk.mono s41
      have e39 := s41 _ _ e39
      have e40 := s41 _ _ e40
      clear hA35 hA36 hA37 hA38 hA39 hA40 S35 g36 S37 g38 S39 S40
      walk_at "go"
      refine ⟨_, a, p41, _, rfl, S41, hA41, e41, by simp, by simp, fun H42 y42 g42 hA42 hy42 => ?_⟩
      have r42 : RepLo K (upd B40 p41 (.lst [.ref p39, .non, .int 0, .ref p40])) none y42 := by
        simp only [List.mem_cons, List.not_mem_nil, or_false] at hy42
        rcases hy42 with rfl | rfl | rfl | rfl
        · exact ⟨.lst e39, by rw [shB_lst e39]; decide⟩
        · exact ⟨.non, rfl⟩
        · exact ⟨.int _, tI⟩
        · exact ⟨.dct e40, by rw [shB_dct e40]; decide⟩
      generalize upd B40 p41 (.lst [.ref p39, .non, .int 0, .ref p40]) = B41 at *
      walk_at "go"
      refine ⟨B41, 2, y42, .int 0, false, rfl, g42.bh, .inr (.inr ⟨rfl, none, .int 0, r42, rfl, rfl⟩), fun B43 H43 g43 => ?_⟩
      have hA43 := hA42.mono g43 (by simp)
      have rk := rk.mono g43.bb
      walk_at "go"
      refine iteF ?_
      refine i_next ?_
      walk_at "go"
      refine ⟨sz5 (by simp), fun p44 hp44 => ?_⟩
      obtain ⟨s44, S44, hA44, e44⟩ := al2 g43.bh hA43 hp44 (.tup [])
      have rk := rk.mono s44
      generalize upd B43 p44 (.tup []) = B44 at *
      generalize upd H43 p44 (.tup []) = H44 at *
      walk_at "go"
      refine ⟨B44, 2, .ref p44, .int 25, true, rfl, S44, .inr (.inr ⟨rfl, some [], .int 25, ⟨p44, _, rfl, e44, True.intro, by simp, fun e he => by cases he⟩, rfl, rfl⟩), fun B45 H45 g45 => ?_⟩
      have hA45 := hA44.mono g45 (by simp)
      have rk := rk.mono g45.bb
      walk_at "go"
      refine iteF ?_
      walk_at "go"
      refine ⟨sz5 (by simp), fun p46 hp46 => ?_⟩
      obtain ⟨s46, S46, hA46, e46⟩ := al2 g45.bh hA45 hp46 (.tup [vk])
      have rk := rk.mono s46
      generalize upd B45 p46 (.tup [vk]) = B46 at *
      generalize upd H45 p46 (.tup [vk]) = H46 at *
      walk_at "go"
      have ok4' : okB (some [dk]) (.int 0) = true := by
        show (goodL [dk] && inB 0 25 (.int 0)) = true
        have e0 : inB 0 25 (.int 0) = true := rfl
        rw [e0, Bool.and_true]
        simp [goodL, gk]
      refine ⟨B46, 2, .ref p46, .int 0, true, rfl, S46, .inr (.inr ⟨rfl, some [dk], .int 0, ⟨p46, _, rfl, e46, ⟨rk, True.intro⟩, by simp, zk1⟩, rfl, ok4'.symm⟩), fun B47 H47 g47 => ?_⟩
      have hA47 := hA46.mono g47 (by simp)
      walk_at "go"
      refine iteF ?_
      exact ⟨B47, _, _, _, _, _, _, rfl, g47.bh, hA47⟩
    · rintro σ H' ⟨B', v2, v3, v4, v5, v6, v7, rfl, _, _⟩
      walk_at "go"
      exact k _
end

end K06
set_option maxRecDepth 100000
set_option maxHeartbeats 2000000
namespace K06
open PySem PySem.Spec PyProof.Rows L2 Us
section
variable {P : Program} {w : World} {K : PySem.W.Frag} {mg : Str → Option Value} {base : Heap}
theorem law_ok (T : Txt K mg) {f : Addr} {fd : FuncData} (F : FunD K "law" "law" (defArgs s_law) (defBody s_law) (defScope s_law) [] [] f fd) : FnOk P w K mg base CX0 10 f fd p_law (spLaw K) := by
  have Dis_integer := ok_is_integer (P := P) (w := w) (base := base) T
  have Dis_within := ok_is_within T Dis_integer
  have Dis_pair := ok_is_pair (P := P) (w := w) (base := base) T
  have Dthere := ok_is_kind_there T Dis_pair Dis_within
  have Dis_kind := ok_is_kind T Dthere
  have Dany := ok_any T Dis_pair Dis_within
  have Dcheck := ok_check T Dany
  have Dlefts_of := ok_lefts_of (P := P) (w := w) (base := base) T
  have Dend_of := ok_end_of (P := P) (w := w) (base := base) T
  have Dbuilt_of := ok_built_of (P := P) (w := w) (base := base) T
  have Dlefts := ok_lefts T Dcheck Dlefts_of
  have Dend := ok_end T Dcheck Dend_of
  have Dbuilt := ok_built T Dany Dis_within Dbuilt_of
  have Ddraw := ok_draw (P := P) (w := w) (base := base) T
  have Dsome := ok_some T Ddraw
  have Dmakers := ok_makers0 (P := P) (w := w) (base := base) T
  have Dare := ok_are0 T Dis_integer
  obtain ⟨fk, Fk⟩ := T.d_Lot_keep
  obtain ⟨fi, Fi⟩ := T.d_Lot__init
  have Gkeep := ok_keep0 (P := P) (w := w) (mg := mg) (base := base) T Dmakers Fk
  have bkeep : L2.Binds K fk p_Lot_keep [] := Fk.bindsN fun _ _ _ _ _ _ us hl => match us, hl with | [_, _, _], _ => rfl
  have GLot := ok_init0 T Dare Gkeep bkeep Fi
  have bLot : L2.Binds K fi p_Lot__init [] := Fi.bindsN fun _ _ _ _ _ _ us hl => match us, hl with | [_, _, _], _ => rfl
  exact ok_law T (ok_hand T) (ok_kind T Ddraw 5) (ok_ends T) (ok_flag T) Dis_kind (ok_is T 6) Dlefts Dend Dbuilt (ok_great T Ddraw) (ok_bent T Ddraw Dsome GLot bLot 5) (ok_deep T) (ok_law_is_kind T) (ok_told T Dlefts Dend Dbuilt) Dsome F
end
theorem facts {P : Program} {w : World} {K : PySem.W.Frag} {h : Heap} {mg : Str → Option Value} {f : Addr} (X : K.In h) (G : h.Ns mainGlobals mg) (hfa : mg ("law" : Str) = some (.ref f)) (c : He.SaysD fa fn K) (ce : ex K = true) :
    ∃ fd : FuncData, (∀ (s : Shared) (v : Value), BindsTo s fd ⟨[v], []⟩ [("_law_script", v)]) ∧ ∀ base : Heap, K.In base → base.Ns mainGlobals mg → FnOk P w K mg base CX0 10 f fd ["_law_script"] (spLaw K) := by
  have T := txt_mk X G c ce
  obtain ⟨f', fd, F, hm⟩ := T.d_law.ex
  have e := hfa.symm.trans hm
  cases e
  refine ⟨fd, fun s v => ?_, fun base _ _ => ?_⟩
  · have b := FunD.bindsA (ps := ["_law_script"]) F fun _ _ _ _ _ _ us hl => match us, hl with | [_], _ => rfl
    exact b s [v] rfl
  · exact law_ok T F

end K06

open PySem PySem.W PySem.Calls PyProof.Rows in
theorem PySem.Challenge.cw_usecounts_k06_whole_kinds_judged_and_bui_holds : PySem.Challenge.rw_usecounts_k06_whole_kinds_judged_and_bui.Holds := by
  w_on; o_law
  refine HandSHeadRun.head_any (r := OpenLaw.row PySem.Challenge.rw_usecounts_k06_whole_kinds_judged_and_bui) (q := view (OpenLaw.row PySem.Challenge.rw_usecounts_k06_whole_kinds_judged_and_bui).prog [47]) (H := K06.hk) (ob := K06.ob) (M := 4000) (loose := K06.loose) (d := HandSHeadRun.topDef (OpenLaw.row PySem.Challenge.rw_usecounts_k06_whole_kinds_judged_and_bui).prog 47) (kwd := []) K06.ob_eq
    (by kernel_rfl) (fun s => by kernel_rfl) K06.run (by kernel_rfl) (by kernel_rfl) (by kernel_rfl) (by rfl) (by first | assumption | decide +kernel) (by decide +kernel) ⟨rfl, rfl, rfl, rfl, rfl, by decide +kernel⟩ ?hw ?hc
  case hw => w_witness2
  case hc =>
    refine L2.walk_ofE (l := PySem.Challenge.rw_usecounts_k06_whole_kinds_judged_and_bui) (n := 63) (k := 10) (x := "_law_script") (CX := L2.CX0) rfl (by decide) (by kernel_rfl) ⟨rfl, by decide, by decide⟩ ?F (fun _ _ _ _ z => z)
    intro w mg fa h Y G hmg0
    obtain ⟨K, KX, c, ce⟩ := Y
    have hmg : mg ("law" : PySem.Str) = some (.ref fa) := by
      have e : (HandSHeadRun.topDef (OpenLaw.row PySem.Challenge.rw_usecounts_k06_whole_kinds_judged_and_bui).prog 47).name = ("law" : PySem.Str) := by kernel_rfl
      rw [← e]
      exact hmg0
    obtain ⟨fd, hb, hF⟩ := K06.facts (P := (PySem.Challenge.rw_usecounts_k06_whole_kinds_judged_and_bui).prog) (w := w) KX G hmg c ce
    exact ⟨K, fd, K06.spLaw K, KX, hb, fun H a ns hl _ hS => ⟨a, ns, rfl, hS, hl, fun _ => rfl⟩, hF⟩
#print axioms PySem.Challenge.cw_usecounts_k06_whole_kinds_judged_and_bui_holds
