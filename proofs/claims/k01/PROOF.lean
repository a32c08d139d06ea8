import PyProof.Rows.All
import Wide.All
import OpenK.AllK
import Wide.FinOn
import KE.KStateDown
import HandS.ForMost
import HandS.ForExc
import HandS.Defaults
import HandS.HeadEnd
import HandS.Head0
import HandS.Head1
import HandS.Head2
import HandS.HeadHook1
import HandS.HeadHook2
import HandS.IsInst
import HandS.ExcIs
import HandS.TupAny
import HandS.Style
import HandS.SetFor
import HandS.SetKeys
import HandS.SortInts
import HandS.CallRecv
import HandS.Strs
import KE.KExcSuper
import HandS.ExcInit
import HandS.ExcField
import HandS.OwnEq
import PyProof.InstEq
import KE.KExcIs
import PySem.Challenge.RW_usecounts_k01_whole_lots_by_own_listing
set_option Elab.async false
set_option linter.all false
set_option maxRecDepth 100000
set_option maxHeartbeats 2000000
namespace Us
open PySem PySem.Spec PyProof.Rows L2
/-! ### the head by facts, and one Bool more -/
abbrev AlX : Type := He.AlD × Bool
def obsX (fa : List He.Fa) (fn : List He.DefD) (ex : PySem.W.Frag → Bool) (K : PySem.W.Frag) : AlX := (He.obsD fa fn K, ex K)
def obsXG (n : Nat) (fa : List He.Fa) (fn : List He.DefD) (ex : PySem.W.Frag → Bool) (g : Addr → Option Obj) : AlX := obsX fa fn ex (He.frG g (He.asD g n))
def hookX (n : Nat) (fa : List He.Fa) (fn : List He.DefD) (ex : PySem.W.Frag → Bool) : PySem.W.Hook where
  α := AlX
  obs := fun s => obsXG n fa fn ex s.heap.get?
  val := fun _ => (He.valD fn, true)
  says := fun _ h => ∃ K : PySem.W.Frag, K.In h ∧ He.SaysD fa fn K ∧ ex K = true
  of := fun _ _ e => ⟨_, He.frG_in, congrArg (fun z : AlX => z.1) e, congrArg (fun z : AlX => z.2) e⟩
  keeps := fun _ _ _ ⟨K, hK, c⟩ k => ⟨K, PySem.W.Frag.In.keeps hK k, c⟩
theorem obsXG_eq {n : Nat} {fa : List He.Fa} {fn : List He.DefD} {ex : PySem.W.Frag → Bool} {g : Addr → Option Obj} {s : Shared} (h : ∀ a, g a = s.heap.get? a) : obsXG n fa fn ex g = (hookX n fa fn ex).obs s := by
  have e : g = s.heap.get? := funext h
  rw [e] <;> rfl
end Us
set_option maxRecDepth 100000
set_option maxHeartbeats 2000000
namespace Us
open PySem PySem.Spec PyProof.Rows L2
/-! ### names of the module, defs -/
def GlobV (mg : Str → Option Value) (x : Str) (v : V) : Prop := ∃ u, mg x = some u ∧ RelV v u
theorem pe_globD {X : Cx} {x : Str} {v : V} {pos : Pos} (h : GlobV X.mg x v) (hg : Gl X x := by rfl) (hd : (x == ("__debug__" : Str)) = false := by decide) : PE X (.Name x pos) (tC v) := by
  obtain ⟨u, hm, r⟩ := h
  exact pe_glob hg hm r hd
structure DefOk (P : Program) (w : World) (K : PySem.W.Frag) (mg : Str → Option Value) (base : Heap) (CX : CXT) (k : Nat) (x : Str) (ps : List Str) (sp : Sp) : Prop where
  ex : ∃ (f : Addr) (fd : FuncData), FnOk P w K mg base CX k f fd ps sp ∧ Binds K fd ps [] ∧ mg x = some (.ref f) ∧ PySem.W.keepIn K (.ref f) = true
theorem DefOk.mono {P : Program} {w : World} {K : PySem.W.Frag} {mg : Str → Option Value} {base : Heap} {CX : CXT} {j k : Nat} {x : Str} {ps : List Str} {sp : Sp} (D : DefOk P w K mg base CX j x ps sp) (h : j ≤ k) : DefOk P w K mg base CX k x ps sp := by
  obtain ⟨f, fd, F, r⟩ := D.ex
  exact ⟨f, fd, F.mono h, r⟩
theorem DefOk.imp {P : Program} {w : World} {K : PySem.W.Frag} {mg : Str → Option Value} {base : Heap} {CX : CXT} {k : Nat} {x : Str} {ps : List Str} {sp sp' : Sp} (D : DefOk P w K mg base CX k x ps sp) (h : ∀ vs H Q E, sp' vs H Q E → sp vs H Q E) : DefOk P w K mg base CX k x ps sp' := by
  obtain ⟨f, fd, F, r⟩ := D.ex
  exact ⟨f, fd, F.imp h, r⟩
/-- what the head says of a def: where it stands -/
structure DefAt (K : PySem.W.Frag) (mg : Str → Option Value) (x : Str) (st : Stmt) : Prop where
  ex : ∃ (f : Addr) (fd : FuncData), FunD K x x (defArgs st) (defBody st) (defScope st) [] [] f fd ∧ mg x = some (.ref f)
section
variable {P : Program} {w : World} {K : PySem.W.Frag} {mg : Str → Option Value} {base : Heap}
/-- the rule for a def -/
theorem DefAt.ok {x : Str} {st : Stmt} {CX : CXT} {N ps : List Str} {k : Nat} {sp : Sp} (F : DefAt K mg x st) (S : FnScope N ps (defScope st))
    (hb : ∀ (kV doc pm : Value) (an : Option Addr) (cdv ct : Value) (us : List Value), us.length = ps.length → bindArgs (PySem.W.fnOf x x (defArgs st) (defBody st) (defScope st) .none kV doc pm an cdv ct) ⟨us, []⟩ = pure (ps.zip us))
    (len : ∀ vs H Q E, sp vs H Q E → vs.length = ps.length)
    (hbody : ∀ (f : Addr) (cdv : Value) (A : Around) (outer : List Env) (s : Shared) (H : Hp) (vs : List V) (Q : VK) (E : XK), Room k (A.deeper (envOfC x (defScope st) s.heap.objs.size f cdv)) → sp vs H Q E →
      ∃ t, PSs (cxOf CX P w K mg base N x (defScope st) f cdv A outer s H E) (defBody st) t ∧ t { nx := fun _ H' => Q .non H', rt := Q } (start N vs) H) : DefOk P w K mg base CX (k + 1) x ps sp := by
  obtain ⟨f, fd, F, g⟩ := F.ex
  exact ⟨f, fd, F.ok S len (fun cdv A outer s H vs Q E => hbody f cdv A outer s H vs Q E), F.bindsN hb, g, F.kp⟩
end
section
variable {X : Cx} {CX : CXT} {k : Nat} {x : Str} {ps : List Str} {sp : Sp} {E : XK} {p pos : Pos} {e : Expr} {es : List Expr} {t : TA}
theorem pe_callD (D : DefOk X.prog X.w X.K X.mg X.base CX k x ps sp) (hr : Room k X.A) (hg : Gl X x) (hx : Passes CX X E) (ha : PA X (e :: es) t)
    (hdb : (x == ("__debug__" : Str)) = false := by decide) (he : starEach (e :: es) X.env = (false, eval e X.env) :: starEach es X.env := by rfl) (hpl : (backTo pos (starEach es X.env)).any (·.1) = false := by rfl) :
    PE X (.Call (.Name x p) (e :: es) [] pos) (tCall sp [] E t) := by
  obtain ⟨f, fd, F, hb, hm, hk⟩ := D.ex
  exact pe_call F hr hg hm hk hb .nil hx ha hdb he hpl
theorem pe_callDS {E : L2.St → XK} (D : DefOk X.prog X.w X.K X.mg X.base CX k x ps sp) (hr : Room k X.A) (hg : Gl X x) (hx : ∀ σ, PassesAt CX X σ (E σ)) (ha : PA X (e :: es) t)
    (hdb : (x == ("__debug__" : Str)) = false := by decide) (he : starEach (e :: es) X.env = (false, eval e X.env) :: starEach es X.env := by rfl) (hpl : (backTo pos (starEach es X.env)).any (·.1) = false := by rfl) :
    PE X (.Call (.Name x p) (e :: es) [] pos) (tCallS sp E t) := by
  obtain ⟨f, fd, F, hb, hm, hk⟩ := D.ex
  exact pe_callS F hr hg hm hk hb hx ha hdb he hpl
end
/-! ### C(), an own exception without own __init__, no arguments -/
theorem pmk_own0 {X : Cx} {C : Addr} {bmB : List Value} {B newId initId : String} {x : Str} {p pos : Pos} (F : ExcBaseFacts B newId initId bmB) (q : PySem.W.excIn X.K C bmB newId = true) (gC : X.mg x = some (.ref C)) (kC : PySem.W.keepIn X.K (.ref C) = true) (r : Raises X (.ref C)) (hg : Gl X x)
    (hdb : (x == ("__debug__" : Str)) = false := by decide) : PMk X (.Call (.Name x p) [] [] pos) (fun _ H Q => Q (.ref C) none H) := by
  intro pins s σ H Q I h
  refine wpAny_Call_Name_kw (ld_glob I hg gC ?_ hdb)
  refine PySem.W.callWith_K0 I.kIn kC ?_
  show wpAny _ _ (call (.ref C) []) _ _ _
  obtain ⟨bm, N, nm, qn, bs, hdct, sn, sub, ab, col, dd, k0, k1, k2, k3, k5, mN, hC, hN, hni, T⟩ := exc_obj I.kIn q
  refine wpAny_call_exc_subT F T hC hN hni (fun h' e hm => ?_) (by show 0 ≤ sizeLine; rw [sizeLine_eq]; omega)
  exact mk_of I hm r h (I.hok.gone hm.new)
structure ExcOk (K : PySem.W.Frag) (mg : Str → Option Value) (x : Str) (C : Addr) : Prop where
  g : mg x = some (.ref C)
  q : PySem.W.excIn K C He.veBase "ValueError.__new__" = true
  k : PySem.W.keepIn K (.ref C) = true
  s : PySem.W.subIn K (.ref C) (.type "BaseException") = some true
  t : PySem.W.typeIn K (.ref C) = some (.type "type")
theorem pmk_x {X : Cx} {C : Addr} {x : Str} {p pos : Pos} (T : ExcOk X.K X.mg x C) (hg : Gl X x) (hdb : (x == ("__debug__" : Str)) = false := by decide) : PMk X (.Call (.Name x p) [] [] pos) (fun _ H Q => Q (.ref C) none H) :=
  pmk_own0 PySem.F.excBase_ValueError T.q T.g T.k (raises_own T.s T.t) hg hdb
/-! ### what stands for good: Same, Gr -/
end Us
namespace L2
open PySem PySem.Spec PyProof.Rows
theorem Same.new {H : Hp} {p : Addr} {o : HO} (h : H p = none) : Same H (upd H p o) := fun b u e => by rw [upd_ne (ne_of_none e h)]; exact e
theorem Same.under {B H : Hp} {p : Addr} {o : HO} (s : Same B H) (h : B p = none) : Same B (upd H p o) := fun b u e => by rw [upd_ne (ne_of_none e h)]; exact s b u e
theorem Same.both {B H : Hp} {p : Addr} {o : HO} (s : Same B H) : Same (upd B p o) (upd H p o) := fun b u e => by
  by_cases hb : b = p
  · subst hb; rw [upd_same] at e ⊢; exact e
  · rw [upd_ne hb] at e ⊢; exact s b u e
end L2
namespace Us
open PySem PySem.Spec PyProof.Rows L2
/-- from (B, H) to (B', H'): B is what stands for good, H all; only the objects at ms are written -/
structure Gr (ms : List Addr) (B H B' H' : Hp) : Prop where
  bb : Same B B'
  bh : Same B' H'
  keep : ∀ b o, b ∉ ms → H b = some o → H' b = some o
  there : ∀ b, H b ≠ none → H' b ≠ none
  old : ∀ b, H b ≠ none → B' b = B b
section
variable {ms ns : List Addr} {B H B1 H1 B2 H2 : Hp} {p : Addr} {o u : HO}
theorem Gr.refl (s : Same B H) : Gr ms B H B H := ⟨Same.refl _, s, fun _ _ _ e => e, fun _ e => e, fun _ _ => rfl⟩
theorem Gr.trans (a : Gr ms B H B1 H1) (b : Gr ms B1 H1 B2 H2) : Gr ms B H B2 H2 :=
  ⟨a.bb.trans b.bb, b.bh, fun c o h e => b.keep c o h (a.keep c o h e), fun c e => b.there c (a.there c e), fun c e => (b.old c (a.there c e)).trans (a.old c e)⟩
theorem Gr.mono (a : Gr ms B H B1 H1) (h : ∀ b ∈ ms, b ∈ ns) : Gr ns B H B1 H1 := ⟨a.bb, a.bh, fun c o hc e => a.keep c o (fun q => hc (h c q)) e, a.there, a.old⟩
theorem Gr.up (a : Gr [] B H B1 H1) : Gr ns B H B1 H1 := a.mono fun _ h => nomatch h
/-- behind it, a step that writes new objects too -/
theorem Gr.trans' (a : Gr ms B H B1 H1) (b : Gr ns B1 H1 B2 H2) (h : ∀ q ∈ ns, q ∈ ms ∨ H q = none) : Gr ms B H B2 H2 :=
  ⟨a.bb.trans b.bb, b.bh, fun c o hc e => b.keep c o (fun q => (h c q).elim hc fun z => by rw [z] at e; cases e) (a.keep c o hc e), fun c e => b.there c (a.there c e), fun c e => (b.old c (a.there c e)).trans (a.old c e)⟩
theorem Gr.bnone (a : Gr ms B H B1 H1) (h : B p = none) (hH : H p = some o) : B1 p = none := (a.old p (by rw [hH]; exact fun z => nomatch z)).trans h
theorem Gr.fresh (a : Gr ms B H B1 H1) (h : H1 p = none) : H p = none := by
  cases e : H p with
  | none => rfl
  | some o => exact absurd h (a.there p (by rw [e]; exact fun z => nomatch z))
theorem bfresh (s : Same B H) (h : H p = none) : B p = none := by
  cases e : B p with
  | none => rfl
  | some o => rw [s p o e] at h; cases h
/-- a new object that stands for good -/
theorem Gr.new (s : Same B H) (h : H p = none) : Gr ms B H (upd B p o) (upd H p o) :=
  ⟨Same.new (bfresh s h), s.both, fun b u _ e => by rw [upd_ne (ne_of_none e h)]; exact e, fun b e => by
    by_cases hb : b = p
    · subst hb; exact absurd h e
    · rw [upd_ne hb]; exact e, fun b e => upd_ne (fun z => by subst z; exact e h)⟩
/-- a new object that is written later -/
theorem Gr.cell (s : Same B H) (h : H p = none) : Gr ms B H B (upd H p o) :=
  ⟨Same.refl _, s.under (bfresh s h), fun b u _ e => by rw [upd_ne (ne_of_none e h)]; exact e, fun b e => by
    by_cases hb : b = p
    · subst hb; exact absurd h e
    · rw [upd_ne hb]; exact e, fun _ _ => rfl⟩
/-- an object is written -/
theorem Gr.set (s : Same B H) (hB : B p = none) (hH : H p = some u) (hm : p ∈ ms) : Gr ms B H B (upd H p o) :=
  ⟨Same.refl _, s.under hB, fun b v hb e => by rw [upd_ne (fun z => hb (by rw [z]; exact hm))]; exact e, fun b e => by
    by_cases hb : b = p
    · subst hb; rw [upd_same]; exact fun z => nomatch z
    · rw [upd_ne hb]; exact e, fun _ _ => rfl⟩
/-- a new object, made by a call -/
theorem Gr.obj (s : Same B H) (hx : H p = none) (k : ∀ b u, H b = some u → H2 b = some u) (e : H2 p = some o) : Gr ms B H (upd B p o) H2 where
  bb := Same.new (bfresh s hx)
  bh := fun b u h => by
    by_cases hb : b = p
    · rw [hb, upd_same] at h
      cases h
      rw [hb]
      exact e
    · rw [upd_ne hb] at h
      exact k _ _ (s b u h)
  keep := fun b u _ h => k b u h
  there := fun b h z => by
    cases q : H b with
    | none => exact h q
    | some u => rw [k b u q] at z; cases z
  old := fun b h => upd_ne (fun z => h (by rw [z]; exact hx))
/-- a new object of ours is written: seen from the entry -/
theorem Gr.setN (g : Gr ms B H B1 H1) (h0 : H p = none) (hB : B1 p = none) : Gr ms B H B1 (upd H1 p o) :=
  ⟨g.bb, g.bh.under hB, fun b v hb e => by rw [upd_ne (ne_of_none e h0)]; exact g.keep b v hb e, fun b e => by
    by_cases hb : b = p
    · subst hb; exact absurd h0 e
    · rw [upd_ne hb]; exact g.there b e, g.old⟩
/-- a new object of ours stands for good from now on -/
theorem Gr.keepN (g : Gr ms B H B1 H1) (h0 : H p = none) (hH : H1 p = some o) (hB : B1 p = none) : Gr ms B H (upd B1 p o) H1 :=
  ⟨fun b u e => by rw [upd_ne (ne_of_none (g.bb b u e) hB)]; exact g.bb b u e, fun b u e => by
    by_cases hb : b = p
    · subst hb; rw [upd_same] at e; cases e; exact hH
    · rw [upd_ne hb] at e; exact g.bh b u e, g.keep, g.there, fun b e => (upd_ne (fun z => by subst z; exact e h0)).trans (g.old b e)⟩
end
/-! ### values of known shape -/
def tyNs : List String := ["tuple", "list", "dict", "int", "bool", "str"]
/-- an own class whose instances are none of these -/
structure OwnC (K : PySem.W.Frag) (C : Addr) : Prop where
  cl : Cls K C
  ha : PySem.W.findIn K (.ref C) "__class__" = some (some (.builtin "object.__class__"))
  hn : PySem.W.specialIn K (.builtin "object.__class__") "__get__" = some (some (.builtin "getset_descriptor.__get__"))
  ht : PySem.W.takesIn K (.builtin "object.__class__") = some true
  hm : PySem.W.mroIn K C (.type "object") = some true
  no : ∀ n ∈ tyNs, PySem.W.kitOne K (.ref C) (.type n) = some false
def ownCB (K : PySem.W.Frag) (C : Addr) : Bool := decide (PySem.W.findIn K (.ref C) "__class__" = some (some (.builtin "object.__class__"))) && (decide (PySem.W.specialIn K (.builtin "object.__class__") "__get__" = some (some (.builtin "getset_descriptor.__get__"))) && (decide (PySem.W.takesIn K (.builtin "object.__class__") = some true) && (decide (PySem.W.mroIn K C (.type "object") = some true) && tyNs.all fun n => decide (PySem.W.kitOne K (.ref C) (.type n) = some false))))
theorem ownC_of {K : PySem.W.Frag} {C : Addr} (cl : Cls K C) (h : ownCB K C = true) : OwnC K C := by
  obtain ⟨h1, h⟩ := He.ba h
  obtain ⟨h2, h⟩ := He.ba h
  obtain ⟨h3, h⟩ := He.ba h
  obtain ⟨h4, h⟩ := He.ba h
  exact ⟨cl, of_decide_eq_true h1, of_decide_eq_true h2, of_decide_eq_true h3, of_decide_eq_true h4, fun n hn => of_decide_eq_true (List.all_eq_true.mp h n hn)⟩
def excCB (K : PySem.W.Frag) (D : Addr) : Bool := decide (PySem.W.findIn K (.ref D) "__getattribute__" = some (some (.builtin "BaseException.__getattribute__"))) && (decide (PySem.W.findIn K (.ref D) "__getattr__" = some none) && (decide (PySem.W.subIn K (.ref D) (.type "BaseException") = some true) && (PySem.W.hasDictIn K D && (decide (PySem.W.findIn K (.ref D) "__class__" = some (some (.builtin "object.__class__"))) && (decide (PySem.W.specialIn K (.builtin "object.__class__") "__get__" = some (some (.builtin "getset_descriptor.__get__"))) && (decide (PySem.W.takesIn K (.builtin "object.__class__") = some true) && decide (PySem.W.mroIn K D (.type "object") = some true)))))))
theorem excC_of {K : PySem.W.Frag} {D : Addr} (h : excCB K D = true) : ExcC K D := by
  obtain ⟨h1, h⟩ := He.ba h
  obtain ⟨h2, h⟩ := He.ba h
  obtain ⟨h3, h⟩ := He.ba h
  obtain ⟨h4, h⟩ := He.ba h
  obtain ⟨h5, h⟩ := He.ba h
  obtain ⟨h6, h⟩ := He.ba h
  obtain ⟨h7, h8⟩ := He.ba h
  exact ⟨of_decide_eq_true h1, of_decide_eq_true h2, of_decide_eq_true h3, h4, of_decide_eq_true h5, of_decide_eq_true h6, of_decide_eq_true h7, of_decide_eq_true h8⟩
inductive Sh (K : PySem.W.Frag) (B : Hp) : V → Prop where
  | non : Sh K B .non
  | bl (b : Bool) : Sh K B (.bl b)
  | int (i : Int) : Sh K B (.int i)
  | str (s : Str) : Sh K B (.str s)
  | tup {p : Addr} {us : List V} (h : B p = some (.tup us)) : Sh K B (.ref p)
  | lst {p : Addr} {us : List V} (h : B p = some (.lst us)) : Sh K B (.ref p)
  | dct {p : Addr} {kvs : List (Key × V)} (h : B p = some (.dK kvs)) : Sh K B (.ref p)
  | ins {p C dx : Addr} {fs : List (Str × V)} (h : B p = some (.ins C dx fs)) (c : OwnC K C) : Sh K B (.ref p)
def shB (B : Hp) (v : V) (n : String) : Bool := match v with
  | .bl _ => n == "bool" || n == "int"
  | .int _ => n == "int"
  | .str _ => n == "str"
  | .ref p => (match B p with
    | some (.tup _) => n == "tuple"
    | some (.lst _) => n == "list"
    | some (.dK _) => n == "dict"
    | _ => false)
  | _ => false
theorem Sh.mono {K : PySem.W.Frag} {B B' : Hp} {v : V} (s : Same B B') (h : Sh K B v) : Sh K B' v := by
  cases h with
  | non => exact .non
  | bl b => exact .bl b
  | int i => exact .int i
  | str z => exact .str z
  | tup h => exact .tup (s _ _ h)
  | lst h => exact .lst (s _ _ h)
  | dct h => exact .dct (s _ _ h)
  | ins h c => exact .ins (s _ _ h) c
theorem shB_mono {K : PySem.W.Frag} {B B' : Hp} {v : V} {n : String} (s : Same B B') (h : Sh K B v) : shB B' v n = shB B v n := by
  cases h with
  | tup h => unfold shB; dsimp only; rw [h, s _ _ h]
  | lst h => unfold shB; dsimp only; rw [h, s _ _ h]
  | dct h => unfold shB; dsimp only; rw [h, s _ _ h]
  | ins h c => unfold shB; dsimp only; rw [h, s _ _ h]
  | _ => rfl
theorem shB_tup {B : Hp} {p : Addr} {us : List V} {n : String} (h : B p = some (.tup us)) : shB B (.ref p) n = (n == "tuple") := by unfold shB; dsimp only; rw [h]
theorem shB_lst {B : Hp} {p : Addr} {us : List V} {n : String} (h : B p = some (.lst us)) : shB B (.ref p) n = (n == "list") := by unfold shB; dsimp only; rw [h]
theorem shB_dct {B : Hp} {p : Addr} {us : List (Key × V)} {n : String} (h : B p = some (.dK us)) : shB B (.ref p) n = (n == "dict") := by unfold shB; dsimp only; rw [h]
theorem shB_ins {B : Hp} {p C dx : Addr} {fs : List (Str × V)} {n : String} (h : B p = some (.ins C dx fs)) : shB B (.ref p) n = false := by unfold shB; dsimp only; rw [h]
theorem sh_ty {K : PySem.W.Frag} {B H : Hp} {v : V} (s : Same B H) (h : Sh K B v) : ∃ t, TyX K H v t ∧ ∀ n ∈ tyNs, PySem.W.kitOne K t (.type n) = some (shB B v n) := by
  cases h with
  | non => exact ⟨_, .base .non, fun n hn => kit_ty (by show kitB "NoneType" n = some false; revert n; decide +kernel)⟩
  | bl b => exact ⟨_, .base (.bl b), fun n hn => kit_ty (by show kitB "bool" n = some (n == "bool" || n == "int"); revert n; decide +kernel)⟩
  | int i => exact ⟨_, .base (.int i), fun n hn => kit_ty (by show kitB "int" n = some (n == "int"); revert n; decide +kernel)⟩
  | str z => exact ⟨_, .base (.str z), fun n hn => kit_ty (by show kitB "str" n = some (n == "str"); revert n; decide +kernel)⟩
  | tup h => exact ⟨_, .base (.tup (s _ _ h)), fun n hn => by rw [shB_tup h]; exact kit_ty (by revert n; decide +kernel)⟩
  | lst h => exact ⟨_, .base (.lst (s _ _ h)), fun n hn => by rw [shB_lst h]; exact kit_ty (by revert n; decide +kernel)⟩
  | dct h => exact ⟨_, .base (.dK (s _ _ h)), fun n hn => by rw [shB_dct h]; exact kit_ty (by revert n; decide +kernel)⟩
  | ins h c => exact ⟨_, .base (.ins (s _ _ h) c.cl c.ha c.hn c.ht c.hm), fun n hn => by rw [shB_ins h]; exact c.no n hn⟩
/-- isinstance(v, T) -/
theorem i_isi {K : PySem.W.Frag} {B H : Hp} {v : V} {n : String} {Q : VK} (s : Same B H) (h : Sh K B v) (q : Q (.bl (shB B v n)) H) (hn : n ∈ tyNs) : rIsi K [v, .ty n] H Q := by
  obtain ⟨t, ht, hk⟩ := sh_ty s h
  exact ⟨v, .ty n, t, _, _, rfl, .ty n, ht, hk n hn, q⟩
/-- isinstance(v, (T1, T2)) -/
theorem i_isiT2 {K : PySem.W.Frag} {B H : Hp} {v : V} {p : Addr} {n m : String} {Q : VK} (s : Same B H) (h : Sh K B v) (hp : H p = some (.tup [.ty n, .ty m])) (q : Q (.bl (shB B v n || shB B v m)) H) (hn : n ∈ tyNs) (hm : m ∈ tyNs) : rIsiT K [v, .ref p] H Q := by
  obtain ⟨t, ht, hk⟩ := sh_ty s h
  refine ⟨v, p, _, t, [.type n, .type m], shB B v n || shB B v m, rfl, hp, .cons (.ty n) (.cons (.ty m) .nil), ht, ?_, q⟩
  refine kitAny_cons (hk n hn) (fun e => ?_) (fun e => ?_)
  · rw [e, Bool.false_or]
    exact kitAny_cons (hk m hm) (fun e => by rw [e]; exact kitAny_nil) (fun e => e)
  · rw [e]; rfl
end Us
set_option maxRecDepth 100000
set_option maxHeartbeats 4000000
/-! rules that the layer lacks: xs.extend(a tuple), t[::-1] of a tuple -/
namespace HT
open PySem PySem.Spec PyProof.Rows
section
variable {prog : Program} {w : World} {A : Around} {E : Value → Shared → Prop} {s : Shared}
theorem places_rev (n : Nat) : Builtin.Slice.slicePlaces ((n : Int) - 1) (-1) (-1) = n := by
  unfold Builtin.Slice.slicePlaces
  have h1 : ¬ ((-1 : Int) > 0) := by omega
  simp only [h1, if_false]
  have e : (-(-1) : Int) = 1 := by decide
  simp only [e, Int.ediv_one]
  split <;> omega
theorem adjust_rev (n : Nat) : Builtin.Slice.sliceAdjust none none (-1) (n : Int) = ((n : Int) - 1, -1) := by
  unfold Builtin.Slice.sliceAdjust
  first
    | rfl
    | (simp; done)
theorem sliceApplied_rev {sl : Addr} {vs : Value} {n : Nat} {Q : Int × Int × Nat → Shared → Prop} (hs : s.heap.IsSliceOf sl .none .none vs) (ps : IsPart vs (some (-1)))
    (h : Q (((n : Int) - 1), -1, n) s) : wpAny (model prog w) A (Builtin.Slice.sliceApplied (.ref sl) (pure (n : Int))) Q E s := by
  obtain ⟨os, hos, hcs, hds⟩ := id hs
  unfold Builtin.Slice.sliceApplied Builtin.Slice.sliceFields
  refine wpAny_bind (wpAny_bind (wpAny_field hos hds (x := .none) rfl (wpAny_bind (wpAny_field hos hds (x := .none) rfl (wpAny_bind (wpAny_field hos hds (x := vs) rfl (wpAny_pure ?_)))))))
  refine wpAny_bind (slicePart_ ps ?_)
  show wpAny _ _ (if ((-1 : Int) == 0) = true then _ else _) _ _ s
  rw [if_neg (by decide)]
  refine wpAny_bind (slicePart_none (wpAny_bind (slicePart_none (wpAny_bind (wpAny_pure ?_)))))
  show wpAny _ _ (match Builtin.Slice.sliceAdjust none none (-1) (n : Int) with | (lo, hi) => pure (lo, (-1 : Int), Builtin.Slice.slicePlaces lo hi (-1))) _ _ s
  rw [adjust_rev n]
  show wpAny _ _ (pure (((n : Int) - 1), (-1 : Int), Builtin.Slice.slicePlaces ((n : Int) - 1) (-1) (-1))) _ _ s
  rw [places_rev]
  exact wpAny_pure h
theorem fm_congr {α β : Type} {f g : α → Option β} : ∀ {l : List α}, (∀ a ∈ l, f a = g a) → l.filterMap f = l.filterMap g
  | [], _ => rfl
  | a :: r, h => by
    rw [List.filterMap_cons, List.filterMap_cons, h a List.mem_cons_self, fm_congr fun b hb => h b (List.mem_cons_of_mem _ hb)]
theorem pick_rev (xs : Array Value) : ((List.range xs.size).filterMap fun (m : Nat) => xs[((((xs.size : Nat) : Int) - 1) + (m : Int) * (-1)).toNat]?).toArray = xs.toList.reverse.toArray := by
  have e2 : (List.range xs.size).filterMap (fun (m : Nat) => xs[((((xs.size : Nat) : Int) - 1) + (m : Int) * (-1)).toNat]?) = (List.range xs.size).filterMap ((fun (k : Nat) => xs[k]?) ∘ fun k => xs.size - 1 - k) := by
    refine fm_congr fun m hm => ?_
    have hl := List.mem_range.mp hm
    have : ((((xs.size : Nat) : Int) - 1) + (m : Int) * (-1)).toNat = xs.size - 1 - m := by omega
    rw [this]
    rfl
  rw [e2, ← List.filterMap_map, PySem.W.krv_range, List.filterMap_reverse, PySem.W.krv_all]
theorem getItem_tuple_rev {t sl : Addr} {items : Array Value} {vs : Value} {Q : Value → Shared → Prop} (ht : IsTup s.heap t items) (hs : s.heap.IsSliceOf sl .none .none vs) (ps : IsPart vs (some (-1)))
    (h : Q (.ref s.heap.objs.size) { s with heap := s.heap.push { cls := .type "tuple", data := .seq items.toList.reverse.toArray } })
    (hsz : items.size ≤ sizeLine) : wpAny (model prog w) A (getItem (.ref t) (.ref sl)) Q E s := by
  have htake : sizeOk (.seq items.toList.reverse.toArray) := by
    show items.toList.reverse.toArray.size ≤ sizeLine
    rw [List.size_toArray, List.length_reverse, Array.length_toList]
    exact hsz
  obtain ⟨os, hos, hcs, hds⟩ := id hs
  have hTs : s.TypeIs (.ref sl) "slice" := ⟨os, hos, hcs⟩
  unfold getItem
  try with_reducible refine wpAny_holding ?_
  first | refine wpAny_bind (wpAny_pure ?_) | skip
  refine wpAny_bind (wpAny_sequenceKey ht.typeIs (by decide) ?_)
  refine wpAny_bind (wpAny_callSpecial?_slot (name := Str.ofString "__getitem__") ht.typeIs PyProof.Rows.slot_tuple_getitem
    (wpAny_call_entry PyProof.Rows.slot_tuple_getitem ht.typeIs entry_tuple_getitem ?_ (args_tuple_getitem _ _)))
  show wpAny _ _ (Builtin.Tuple.tupleItemsOf (.ref t) >>= _) _ _ s
  refine wpAny_bind (tupleItemsOf_ ht ?_)
  refine wpAny_bind (wpAny_typeOf hTs ?_)
  rw [if_pos (by decide)]
  refine wpAny_bind (sliceApplied_rev hs ps ?_)
  have hno : ¬ (((((items.size : Nat) : Int) - 1) == 0 && (-1 : Int) == 1 && items.size == items.size) = true) := by
    intro q
    rw [Bool.and_eq_true, Bool.and_eq_true] at q
    have q1 : ((-1 : Int) == 1) = true := q.1.2
    exact absurd q1 (by decide)
  show wpAny _ _ (if ((((items.size : Nat) : Int) - 1) == 0 && (-1 : Int) == 1 && items.size == items.size) = true then _ else _) _ _ s
  rw [if_neg hno, pick_rev]
  first
    | exact wpAny_bind (m := Builtin.Tuple.tupleExact _) (wpAny_newObj_type (wpAny_pure ⟨_, rfl, wpAny_pure h⟩) htake)
    | exact wpAny_bind (m := Builtin.Tuple.tupleExact _) (wpAny_newObj_type (wpAny_bind (wpAny_pure (wpAny_pure ⟨_, rfl, wpAny_pure h⟩))) htake)
    | exact wpAny_bind (wpAny_bind (m := Builtin.Tuple.tupleExact _) (wpAny_newObj_type (wpAny_pure (wpAny_pure ⟨_, rfl, wpAny_pure h⟩)) htake))
    | exact wpAny_bind (wpAny_bind (m := Builtin.Tuple.tupleExact _) (wpAny_newObj_type (wpAny_pure ⟨_, rfl, wpAny_pure h⟩) htake))
end
end HT
namespace Us
open PySem PySem.Spec PyProof.Rows L2
open PySem.AutoSeq1 in
set_option maxRecDepth 8000 in
theorem list_extend_tupW (l : Addr) (items : Array Value) (n : Nat) (b : Addr) (items2 : Array Value) (n2 : Nat) (dd : Option Addr) (sl : Array (Option Value)) (hs0 : ¬(!items.isEmpty && Builtin.List.listTooLong (items.size + items2.size)) = true) (hs1 : items.size ≤ sizeLine) (hs2 : items.size + items2.size ≤ sizeLine + 1) :
    Meets (Builtin.«list.extend» ⟨[.ref l, .ref b], []⟩) (fun _ R s => s.heap.get? l = some { cls := .type "list", dict := none, data := .seq items n, slots := #[] } ∧ s.heap.get? b = some { cls := .type "tuple", dict := dd, data := .seq items2 n2, slots := sl } ∧ R (.ok (.ret Value.none)) { s with heap := s.heap.update l (Obj.mapSeq fun x => x ++ items2), toks := s.toks }) :=
  .of_wp fun prog w A R s h => by
    obtain ⟨hp, g, d, tk, os⟩ := s; obtain ⟨hl, hb, h⟩ := h; have f1 := idx_int; have f2 := PySem.AutoSeq1.sub_tuple_tuple; have f3 := PySem.AutoSeq1.sub_list_list; have f4 := PySem.AutoSeq1.sub_tuple_list; have f5 := PySem.AutoSeq1.sub_list_tuple;
    have hz' : (items ++ items2).size ≤ sizeLine + 1 := by rw [Array.size_append]; exact hs2
    wp_walk using (wpAny_updateSeq hl rfl (hz := hs1) (_hz' := hz')), wpAny_loadPart' hl, wpAny_loadPart' hb; exact ⟨_, rfl, h⟩
section
variable {X : Cx}
def tRevT (K : PySem.W.Frag) (te : TE) : TE := fun σ H Q => te σ H fun x H1 => ∃ a xs, x = .ref a ∧ SqT K H1 a xs ∧ ∀ p, H1 p = none → Q (.ref p) (upd H1 p (.tup xs.reverse))
theorem pe_revT {e : Expr} {te : TE} {k : Nat} {p1 p2 p3 pos : Pos} (he : PE X e te) : PE X (.Subscript e (.Slice none none (some (.UnaryOp .USub (.Constant (.int 1) k p1) p2)) p3) pos) (tRevT X.K te) := by
  refine ⟨fun pins s σ H Q I h => ?_⟩
  refine Subscript_ (thn (he.run pins s σ H _ I h) fun v s1 ⟨x, H1, I1, r1, q1⟩ => ?_)
  obtain ⟨a, xs, ex, hx, q⟩ := q1
  subst ex
  cases r1
  have hst : PO X (some (.UnaryOp .USub (.Constant (.int 1) k p1) p2)) (tPart (tUn (rU fun i => .int (-i)) (tC (.int 1)))) := po_some (pe_un un_neg pe_int)
  refine wpAny_Slice (thn (po_none.run pins s1 σ H1 (fun o H2 => o = none ∧ H2 = H1) I1 ⟨rfl, rfl⟩) fun vl s2 ⟨l, H2, I2, pl, el, e2⟩ => ?_)
  subst el e2
  refine thn (po_none.run pins s2 σ H2 (fun o H3 => o = none ∧ H3 = H2) I2 ⟨rfl, rfl⟩) fun vu s3 ⟨u, H3, I3, pu, eu, e3⟩ => ?_
  subst eu e3
  refine thn (hst.run pins s3 σ H3 (fun o H4 => o = some (-1) ∧ H4 = H3) I3 ⟨1, rfl, -1, rfl, rfl, rfl⟩) fun vs s4 ⟨o, H4, I4, ps, eo, e4⟩ => ?_
  subst eo e4
  cases pl
  cases pu
  have I5 : Inv X pins σ H4 { s4 with heap := s4.heap.push { cls := .type "slice", data := .fields #[.none, .none, vs] } } := I4.kept (t' := s4.toks) fun b ob q => Heap.get?_push_of_some _ q
  obtain ⟨its, r, ht, hz⟩ := I5.tuple hx
  have hlen := r.length
  show wpAny (model X.prog X.w) X.A (subscriptTail e (.Slice none none (some (.UnaryOp .USub (.Constant (.int 1) k p1) p2)) p3) (.ref a) (.ref s4.heap.objs.size)) (EP X pins σ Q) X.xe { s4 with heap := s4.heap.push { cls := .type "slice", data := .fields #[.none, .none, vs] } }
  refine tail_any (ops := [.ref a, .ref s4.heap.objs.size]) ht.typeIs (PyProof.Rows.slot_tuple_getitem.lookup) ?_ (by with_unfolding_all rfl)
  refine HT.getItem_tuple_rev ht (Heap.IsSliceOf.new _ .none .none vs) ps ?_ (by rw [List.size_toArray]; omega)
  refine ⟨.ref _, _, I5.laid (t' := s4.toks) (o := .tup xs.reverse) (fun b ob q => Heap.get?_push_of_some _ q) (Nat.le_refl _) ?_, rfl, q _ (I5.hok.fresh (Nat.le_refl _))⟩
  exact ⟨by rw [List.length_reverse]; exact hz, _, r.reverse, _, Heap.get?_push_size _ rfl, rfl, _, rfl⟩
def rExtT (K : PySem.W.Frag) : V → List V → Hp → VK → Prop := fun x vs H Q => ∃ l b xs zs, x = .ref l ∧ vs = [.ref b] ∧ H l = some (.lst xs) ∧ SqT K H b zs ∧ xs.length + zs.length ≤ sizeLine ∧ Q .non (upd H l (.lst (xs ++ zs)))
theorem mt_extendT : MtM X "list.extend" (rExtT X.K) := by
  intro pins s σ H x vs v us Q I rx rv h
  obtain ⟨l, b, xs, zs, rfl, rfl, hH, hB, hz, q⟩ := h
  cases rx
  obtain ⟨u, rfl, ru⟩ := rv.one
  cases ru
  obtain ⟨z, its, n, r, hl, e⟩ := I.lstM hH
  obtain ⟨its2, r2, ht, hz2⟩ := I.tuple hB
  obtain ⟨⟨cls2, dd2, data2, sl2⟩, ho2, hc2, n2, hd2⟩ := id ht
  simp only at hc2 hd2
  subst hc2 hd2
  have l2 := r2.length
  have hsz : its.toArray.size + its2.toArray.size ≤ sizeLine := by rw [List.size_toArray, List.size_toArray]; omega
  have hlong : ¬ (!its.toArray.isEmpty && Builtin.List.listTooLong (its.toArray.size + its2.toArray.size)) = true := by
    rw [notLongL hsz, Bool.and_false]
    exact Bool.false_ne_true
  refine call_meets PySem.F.slot_list_extend ⟨_, e, rfl⟩ PySem.F.entry_list_extend (PySem.F.args_list_extend_2 _ _)
    (list_extend_tupW l its.toArray n b its2.toArray n2 dd2 sl2 hlong (by rw [List.size_toArray]; omega) (by omega)) ⟨e, ho2, ?_⟩
  refine ⟨.non, _, I.lset (its' := its ++ its2) hH e (by simp) (r.append r2) ?_, rfl, q⟩
  rw [List.length_append]
  omega
/-- set(t), t a tuple of ints -/
def rSetTI (K : PySem.W.Frag) (w : World) : List V → Hp → VK → Prop := fun xs H Q => ∃ (p : Addr) (ns : List Int), xs = [.ref p] ∧ SqT K H p (ns.map V.int) ∧ ns.length ≤ 1000 ∧ ∀ q c, H q = none → c ≤ ns.length → Q (.ref q) (upd H q (SetO w q (fun j => decide (j ∈ ns)) c))
theorem call_setTI (hc : X.calm = true) : CallR X (.type "set") (rSetTI X.K X.w) := by
  intro pins s σ H xs us Q I r h
  obtain ⟨p, ns, rfl, hq, hl, q⟩ := h
  cases r with
  | cons r rr =>
    cases rr
    cases r
    obtain ⟨its, rv, pt, hz⟩ := I.tuple hq
    have hi : IntsAre its.toArray.toList ns := ints_of_vals rv
    refine call_set_tupI ns (I.ok.hd hc) (show s.heap.IsTuple p its.toArray from pt) hi (by unfold scanBound; omega) fun h' tk c R1 hcn k => ?_
    have hn : H s.heap.objs.size = none := I.hok.fresh (Nat.le_refl _)
    exact ⟨.ref _, upd H s.heap.objs.size (SetO X.w s.heap.objs.size (fun j => decide (j ∈ ns)) c), I.laid (t' := tk) k (Nat.le_refl _) (setO_new R1), rfl, q _ _ hn hcn⟩
end
end Us
set_option maxRecDepth 100000
set_option maxHeartbeats 2000000
/-! the readings, a step each -/
namespace Us
open PySem PySem.Spec PyProof.Rows L2
section
variable {X : Cx}
def rLenU (K : PySem.W.Frag) : List V → Hp → VK → Prop := fun xs H Q => ∃ p ys, xs = [.ref p] ∧ (SqL K H p ys ∨ SqT K H p ys) ∧ Q (.int ys.length) H
theorem call_lenU : CallR X (.builtin "len") (rLenU X.K) := call_len_seq
def rLenS : List V → Hp → VK → Prop := fun xs H Q => ∃ z, xs = [.str z] ∧ z.length ≤ sizeLine ∧ Q (.int z.length) H
theorem call_lenS : CallR X (.builtin "len") rLenS := call_len_str
def rIntU : List V → Hp → VK → Prop := fun xs H Q => (∃ i, xs = [.int i] ∧ Q (.int i) H) ∨ ∃ k, xs = [.bl k] ∧ Q (.int (if k then 1 else 0)) H
theorem call_intU : CallR X (.type "int") rIntU := call_int1
def rAbsU : List V → Hp → VK → Prop := fun xs H Q => ∃ i, xs = [.int i] ∧ Q (.int (if i < 0 then -i else i)) H
theorem call_absU : CallR X (.builtin "abs") rAbsU := call_abs
def rIsNU : R2 := fun x y H Q => y = .non ∧ Q (.bl (decide (x = .non))) H
theorem op_isNU : OpR X (compareOp .Is) rIsNU := op_isN
def rNotNU : R2 := fun x y H Q => y = .non ∧ Q (.bl (!decide (x = .non))) H
theorem op_notNU : OpR X (compareOp .IsNot) rNotNU := op_notN
def rListU (K : PySem.W.Frag) : List V → Hp → VK → Prop := fun xs H Q => ∃ p ys, xs = [.ref p] ∧ (SqL K H p ys ∨ SqT K H p ys) ∧ ∀ l, H l = none → Q (.ref l) (upd H l (.lst ys))
theorem call_listU : CallR X (.type "list") (rListU X.K) := call_list_of
def rTupU (K : PySem.W.Frag) : List V → Hp → VK → Prop := fun xs H Q => ∃ p ys, xs = [.ref p] ∧ ((SqL K H p ys ∧ ∀ l, H l = none → Q (.ref l) (upd H l (.tup ys))) ∨ (SqT K H p ys ∧ Q (.ref p) H))
theorem call_tupU : CallR X (.type "tuple") (rTupU X.K) := call_tuple_of
end
section
variable {K : PySem.W.Frag} {σ : L2.St} {H : Hp} {Q : VK} {D : Ends} {i : Nat} {v x y : V} {ta tb tc te : TE} {t u : TS} {tt tu : TT} {tr : TA} {g : TG}
theorem i_seq (h : t { D with nx := u D } σ H) : tSeq t u D σ H := h
theorem i_asg (h : te σ H fun x H1 => g x σ H1 D.nx) : tAsg te g D σ H := h
theorem i_ret (h : te σ H D.rt) : tRet te D σ H := h
theorem i_retN (h : D.rt .non H) : tRetN D σ H := h
theorem i_ifS (h : tt σ H fun b H1 => if b = true then t D σ H1 else u D σ H1) : tIfS tt t u D σ H := h
theorem i_drop (h : te σ H fun _ H1 => D.nx σ H1) : tDrop te D σ H := h
theorem i_next (h : D.nx σ H) : tNext D σ H := h
theorem i_name {Q : L2.St → Hp → Prop} (h : Q (σ.set i (some v)) H) : gName i v σ H Q := h
theorem i_var (h : σ[i]? = some (some v)) (q : Q v H) : tVar i σ H Q := ⟨v, h, q⟩
theorem i_c (q : Q v H) : tC v σ H Q := q
theorem i_op {r : R2} (h : ta σ H fun x H1 => tb σ H1 fun y H2 => r x y H2 Q) : tOp r ta tb σ H Q := h
theorem i_un {r : V → Hp → VK → Prop} (h : ta σ H fun x H1 => r x H1 Q) : tUn r ta σ H Q := h
theorem i_nil {Q : List V → Hp → Prop} (q : Q [] H) : tNil σ H Q := q
theorem i_cons {Q : List V → Hp → Prop} (h : ta σ H fun x H1 => tr σ H1 fun xs H2 => Q (x :: xs) H2) : tCons ta tr σ H Q := h
theorem i_call {sp : Sp} {E : XK} (h : tr σ H fun vs H1 => sp (vs ++ []) H1 Q E) : tCall sp [] E tr σ H Q := h
theorem i_callS {sp : Sp} {E : L2.St → XK} (h : tr σ H fun vs H1 => sp vs H1 Q (E σ)) : tCallS sp E tr σ H Q := h
theorem i_cb {r : List V → Hp → VK → Prop} (h : tr σ H fun vs H1 => r vs H1 Q) : tCB r tr σ H Q := h
theorem i_tup (h : tr σ H fun xs H1 => xs.length ≤ sizeLine ∧ ∀ p, H1 p = none → Q (.ref p) (upd H1 p (.tup xs))) : tTup tr σ H Q := h
theorem i_lst (h : tr σ H fun xs H1 => xs.length ≤ sizeLine ∧ ∀ p, H1 p = none → Q (.ref p) (upd H1 p (.lst xs))) : tLst tr σ H Q := h
theorem i_b {Q : Bool → Hp → Prop} (h : te σ H fun x H1 => ∃ c, x = .bl c ∧ Q c H1) : tB te σ H Q := h
theorem i_test {Q : Bool → Hp → Prop} (h : te σ H fun x H1 => ∃ c, x = .bl c ∧ Q c H1) : tTest te σ H Q := h
theorem i_and {Q : Bool → Hp → Prop} (h : tt σ H fun c H1 => if c = true then tu σ H1 Q else Q false H1) : tAnd tt tu σ H Q := h
theorem i_or {Q : Bool → Hp → Prop} (h : tt σ H fun c H1 => if c = true then Q true H1 else tu σ H1 Q) : tOr tt tu σ H Q := h
theorem i_not {Q : Bool → Hp → Prop} (h : tt σ H fun c H1 => Q (!c) H1) : tNot tt σ H Q := h
theorem i_yes {Q : Bool → Hp → Prop} (h : Q true H) : tYes σ H Q := h
theorem i_if (h : tt σ H fun c H1 => if c = true then ta σ H1 Q else tb σ H1 Q) : tIf tt ta tb σ H Q := h
theorem i_andV (h : ta σ H fun x H1 => ∃ c, x = .bl c ∧ if c = true then tb σ H1 Q else Q (.bl false) H1) : tAndV ta tb σ H Q := h
theorem i_orV (h : ta σ H fun x H1 => ∃ c, x = .bl c ∧ if c = true then Q (.bl true) H1 else tb σ H1 Q) : tOrV ta tb σ H Q := h
theorem i_notV (h : ta σ H fun x H1 => ∃ c, x = .bl c ∧ Q (.bl (!c)) H1) : tNotV ta σ H Q := h
theorem i_chain {r r' : R2} (h : ta σ H fun x H1 => tb σ H1 fun y H2 => r x y H2 fun z H3 => ∃ k, z = .bl k ∧ (if k = true then tc σ H3 fun w' H4 => r' y w' H4 Q else Q (.bl false) H3)) : tChain r r' ta tb tc σ H Q := h
theorem i_bm0 {T : String} {r : V → List V → Hp → VK → Prop} (h : te σ H fun x H1 => tyV K T x H1 ∧ r x [] H1 Q) : tBM0 K T r te σ H Q := h
theorem i_bm {T : String} {r : V → List V → Hp → VK → Prop} (h : te σ H fun x H1 => tyV K T x H1 ∧ tr σ H1 fun xs H2 => r x xs H2 Q) : tBM K T r te tr σ H Q := h
theorem i_sl {r : V → Option Int → Option Int → Hp → VK → Prop} {tl th : TO} (h : te σ H fun x H1 => tl σ H1 fun l H2 => th σ H2 fun u H3 => r x l u H3 Q) : tSl r te tl th σ H Q := h
theorem i_noPart {Q : Option Int → Hp → Prop} (q : Q none H) : tNoPart σ H Q := q
theorem i_part {Q : Option Int → Hp → Prop} (h : te σ H fun x H1 => ∃ i, x = .int i ∧ Q (some i) H1) : tPart te σ H Q := h
theorem i_sub {to ti : TE} {ts : TSet} {Q : L2.St → Hp → Prop} (h : to σ H fun o H1 => ti σ H1 fun i H2 => ts o i v H2 fun H3 => Q σ H3) : gSub to ti ts v σ H Q := h
theorem i_gtup {n : Nat} {t : TGs} {a : Addr} {xs : List V} {Q : L2.St → Hp → Prop} (h : SqT K H a xs) (e : xs.length = n) (q : t xs σ H Q) : gTup K n t (.ref a) σ H Q := ⟨a, xs, rfl, h, e, q⟩
theorem i_gcons {t : TG} {u : TGs} {r : List V} {Q : L2.St → Hp → Prop} (q : t v σ H fun σ' H' => u r σ' H' Q) : gCons t u (v :: r) σ H Q := ⟨v, r, rfl, q⟩
theorem i_gnil {Q : L2.St → Hp → Prop} (q : Q σ H) : gNil [] σ H Q := ⟨rfl, q⟩
theorem i_aug {ti : TIp} (h : σ[i]? = some (some x)) (q : te σ H fun y H1 => ti x y H1 fun z H2 => D.nx (σ.set i (some z)) H2) : tAug i te ti D σ H := ⟨x, h, q⟩
theorem i_par {j : Nat} {ta : TA} (h : ta σ H fun vs H1 => ∃ v w, vs = [v, w] ∧ D.nx ((σ.set i (some v)).set j (some w)) H1) : tPar i j ta D σ H := h
theorem i_two {a b : V} {P : V → V → Prop} (h : P a b) : ∃ v w, [a, b] = [v, w] ∧ P v w := ⟨a, b, rfl, h⟩
theorem i_iTup {R : It → Hp → Prop} (h : te σ H fun x H1 => ∃ a, x = .ref a ∧ (∃ xs, SqT K H1 a xs) ∧ R (Itt K a) H1) : iTup K te σ H R := h
theorem i_iList {R : It → Hp → Prop} (h : te σ H fun x H1 => ∃ a, x = .ref a ∧ (∃ xs, SqL K H1 a xs) ∧ R (Itl K a) H1) : iList K te σ H R := h
theorem i_iRng1 {R : It → Hp → Prop} (h : tr σ H fun vs H1 => ∃ j : Int, vs = [.int j] ∧ -(2 ^ 62) ≤ j ∧ j < 2 ^ 62 ∧ R (Itr 0 j.toNat) H1) : iRng1 tr σ H R := h
theorem i_revT (h : te σ H fun x H1 => ∃ a xs, x = .ref a ∧ SqT K H1 a xs ∧ ∀ p, H1 p = none → Q (.ref p) (upd H1 p (.tup xs.reverse))) : tRevT K te σ H Q := h
theorem i_for {wi : TI} {tb : TS} (h : wi σ H fun J H1 => ∃ W : Nat → Nat → L2.St → Hp → Prop, (∃ m, W 0 m σ H1) ∧ ∀ i m σ H, W i m σ H →
  (J.stop i H ∧ D.nx σ H) ∨ (J.go i H ∧ ∃ N : L2.St → Hp → Prop, (∀ σ' H', N σ' H' → ∃ m', m' < m ∧ W (i + 1) m' σ' H') ∧ ∀ x H', J.yld i H x H' → g x σ H' fun σ2 H2 => tb { D with nx := N, ct := N, bk := D.nx } σ2 H2)) : tFor wi g tb D σ H := h
theorem i_lc {wi : TI} {vs : List Nat} (h : wi σ H fun J H1 => ∀ D, H1 D = none → ∃ W : Nat → Nat → Hp → Prop, (∃ m, W 0 m (upd H1 D (.lst []))) ∧ ∀ i m H, W i m H →
  (J.stop i H ∧ Q (.ref D) H) ∨ (J.go i H ∧ ∃ Nx : Hp → Prop, (∀ H', Nx H' → ∃ m', m' < m ∧ W (i + 1) m' H') ∧ ∀ x H', J.yld i H x H' → g x (wipe σ vs) H' fun σ2 H2 => wipe σ2 vs = wipe σ vs ∧ tt σ2 H2 fun b H3 =>
    if b = true then te σ2 H3 fun y H4 => ∃ acc, H4 D = some (.lst acc) ∧ acc.length < sizeLine ∧ Nx (upd H4 D (.lst (acc ++ [y]))) else Nx H3)) : tLc wi g tt te vs σ H Q := h
theorem i_ixA {p : Addr} {us : List V} {j : Int} (h : H p = some (.tup us) ∨ H p = some (.lst us)) (a : atI us j = some v) (q : Q v H) : rIx K (.ref p) (.int j) H Q := by
  rcases h with h | h
  · exact .inr (.inl ⟨p, us, j, v, rfl, rfl, SqT.of h, a, q⟩)
  · exact .inl ⟨p, us, j, v, rfl, rfl, SqL.of h, a, q⟩
theorem i_lenA {p : Addr} {us : List V} (h : H p = some (.tup us) ∨ H p = some (.lst us)) (q : Q (.int us.length) H) : rLenU K [V.ref p] H Q := by
  rcases h with h | h
  · exact ⟨p, us, rfl, .inr (SqT.of h), q⟩
  · exact ⟨p, us, rfl, .inl (SqL.of h), q⟩
theorem i_setF {tv : TE} {f : Str} (h : tv σ H fun y H1 => ta σ H1 fun x H2 => ∃ a C dx fs, x = .ref a ∧ H2 a = some (.ins C dx fs) ∧ Cls K C ∧ NoAttr K C f ∧ fs.length < 1000 ∧ D.nx σ (upd H2 a (.ins C dx (putF f y fs)))) : sFld K ta tv f D σ H := h
theorem i_getF {f : Str} (h : ta σ H fun x H1 => ∃ a C dx fs v, x = .ref a ∧ H1 a = some (.ins C dx fs) ∧ Cls K C ∧ NoAttr K C f ∧ fs.lookup f = some v ∧ Q v H1) : tFld K ta f σ H Q := h
theorem i_meth {C : Addr} {m : Str} {sp : Sp} {dvs : List V} {E : XK} (h : ta σ H fun x H1 => ∃ a dx fs, x = .ref a ∧ H1 a = some (.ins C dx fs) ∧ fs.lookup m = none ∧ tr σ H1 fun vs H2 => sp (x :: (vs ++ dvs)) H2 Q E) : tMeth C m sp dvs E ta tr σ H Q := h
theorem i_make {C : Addr} {sp : Sp} {dvs : List V} {E : XK} (h : tr σ H fun vs H1 => ∀ x dx, H1 x = none → H1 dx = none → dx ≠ x → sp (.ref x :: (vs ++ dvs)) (upd (upd H1 dx (.own x)) x (.ins C dx [])) (fun v H2 => v = .non ∧ Q (.ref x) H2) E) : tMake C sp dvs E tr σ H Q := h
theorem i_bl {b : Bool} {P : Bool → Prop} (h : P b) : ∃ c, V.bl b = .bl c ∧ P c := ⟨b, rfl, h⟩
theorem i_int {b : Int} {P : Int → Prop} (h : P b) : ∃ c, V.int b = .int c ∧ P c := ⟨b, rfl, h⟩
theorem i_rI0 {g : Int → Int → V} {a b : Int} (q : Q (g a b) H) : rI0 g (.int a) (.int b) H Q := ⟨a, b, rfl, rfl, q⟩
theorem i_rI {C : Int → Int → Prop} {g : Int → Int → V} {a b : Int} (c : C a b) (q : Q (g a b) H) : rI C g (.int a) (.int b) H Q := ⟨a, b, rfl, rfl, c, q⟩
theorem i_rU {g : Int → V} {a : Int} (q : Q (g a) H) : rU g (.int a) H Q := ⟨a, rfl, q⟩
theorem i_eq (h : scal x y = true) (q : Q (.bl (decide (x = y))) H) : rEq x y H Q := ⟨h, q⟩
theorem i_ne (h : scal x y = true) (q : Q (.bl (!decide (x = y))) H) : rNe x y H Q := ⟨h, q⟩
theorem i_ixL {p : Addr} {xs : List V} {j : Int} (h : SqL K H p xs) (a : atI xs j = some v) (q : Q v H) : rIxL K (.ref p) (.int j) H Q := ⟨p, xs, j, v, rfl, rfl, h, a, q⟩
theorem i_ixT {p : Addr} {xs : List V} {j : Int} (h : SqT K H p xs) (a : atI xs j = some v) (q : Q v H) : rIxT K (.ref p) (.int j) H Q := ⟨p, xs, j, v, rfl, rfl, h, a, q⟩
theorem i_lenL {p : Addr} {xs : List V} (h : SqL K H p xs) (q : Q (.int xs.length) H) : rLenU K [V.ref p] H Q := ⟨p, xs, rfl, .inl h, q⟩
theorem i_lenT {p : Addr} {xs : List V} (h : SqT K H p xs) (q : Q (.int xs.length) H) : rLenU K [V.ref p] H Q := ⟨p, xs, rfl, .inr h, q⟩
theorem i_lenS {z : Str} (h : z.length ≤ sizeLine) (q : Q (.int z.length) H) : rLenS [V.str z] H Q := ⟨z, rfl, h, q⟩
theorem i_intI {a : Int} (q : Q (.int a) H) : rIntU [V.int a] H Q := .inl ⟨a, rfl, q⟩
theorem i_intB {b : Bool} (q : Q (.int (if b then 1 else 0)) H) : rIntU [V.bl b] H Q := .inr ⟨b, rfl, q⟩
theorem i_abs {a : Int} (q : Q (.int (if a < 0 then -a else a)) H) : rAbsU [V.int a] H Q := ⟨a, rfl, q⟩
theorem i_isN (q : Q (.bl (decide (x = .non))) H) : rIsNU x .non H Q := ⟨rfl, q⟩
theorem i_notN (q : Q (.bl (!decide (x = .non))) H) : rNotNU x .non H Q := ⟨rfl, q⟩
theorem i_listL {p : Addr} {xs : List V} (h : SqL K H p xs) (q : ∀ l, H l = none → Q (.ref l) (upd H l (.lst xs))) : rListU K [V.ref p] H Q := ⟨p, xs, rfl, .inl h, q⟩
theorem i_listT {p : Addr} {xs : List V} (h : SqT K H p xs) (q : ∀ l, H l = none → Q (.ref l) (upd H l (.lst xs))) : rListU K [V.ref p] H Q := ⟨p, xs, rfl, .inr h, q⟩
theorem i_tupL {p : Addr} {xs : List V} (h : SqL K H p xs) (q : ∀ l, H l = none → Q (.ref l) (upd H l (.tup xs))) : rTupU K [V.ref p] H Q := ⟨p, xs, rfl, .inl ⟨h, q⟩⟩
theorem i_tupT {p : Addr} {xs : List V} (h : SqT K H p xs) (q : Q (.ref p) H) : rTupU K [V.ref p] H Q := ⟨p, xs, rfl, .inr ⟨h, q⟩⟩
theorem tyL {p : Addr} {xs : List V} (h : H p = some (.lst xs)) : tyV K "list" (.ref p) H := .inl ⟨rfl, _, SqL.of h⟩
theorem i_pop {p : Addr} {xs : List V} (h : H p = some (.lst xs)) (hy : xs[xs.length - 1]? = some y) (q : Q y (upd H p (.lst xs.dropLast))) : tyV K "list" (.ref p) H ∧ rPop (.ref p) [] H Q := ⟨tyL h, p, xs, y, rfl, rfl, h, hy, q⟩
theorem i_app {p : Addr} {xs : List V} (h : H p = some (.lst xs)) (hz : xs.length < sizeLine) (q : Q .non (upd H p (.lst (xs ++ [y])))) : rAppend (.ref p) [y] H Q := ⟨p, xs, y, rfl, rfl, h, hz, q⟩
theorem i_extT {p b : Addr} {xs zs : List V} (h : H p = some (.lst xs)) (hb : SqT K H b zs) (hz : xs.length + zs.length ≤ sizeLine) (q : Q .non (upd H p (.lst (xs ++ zs)))) : rExtT K (.ref p) [.ref b] H Q := ⟨p, b, xs, zs, rfl, rfl, h, hb, hz, q⟩
theorem i_setL {p : Addr} {xs : List V} {k : Int} {j : Nat} {Q : Hp → Prop} (h : H p = some (.lst xs)) (hj : ixN xs.length k = some j) (q : Q (upd H p (.lst (xs.set j v)))) : rSetL (.ref p) (.int k) v H Q := ⟨p, xs, k, j, rfl, rfl, h, hj, q⟩
theorem i_all {p : Addr} {bs : List Bool} (h : SqL K H p (bs.map V.bl)) (q : Q (.bl (bs.all id)) H) : rAll K [.ref p] H Q := ⟨p, bs, rfl, h, q⟩
theorem i_any {p : Addr} {bs : List Bool} (h : SqL K H p (bs.map V.bl)) (q : Q (.bl (bs.any id)) H) : rAny K [.ref p] H Q := ⟨p, bs, rfl, h, q⟩
/-- a display: the new object, then all behind is of the heap with it -/
theorem i_mk {p' : List V} {o : HO} (hz : p'.length ≤ sizeLine) (q : ∀ p, H p = none → Q (.ref p) (upd H p o)) : p'.length ≤ sizeLine ∧ ∀ p, H p = none → Q (.ref p) (upd H p o) := ⟨hz, q⟩
end
theorem i_while {c : TT} {tb : TS} {D : Ends} {σ : L2.St} {H : Hp} (W : Nat → L2.St → Hp → Prop) (m0 : Nat) (h0 : W m0 σ H)
    (hs : ∀ m σ H, W m σ H → c σ H fun b H1 => if b = true then ∃ N : L2.St → Hp → Prop, (∀ σ' H', N σ' H' → ∃ m', m' < m ∧ W m' σ' H') ∧ tb { D with nx := N, ct := N, bk := D.nx } σ H1 else D.nx σ H1) : tWhile c tb D σ H := ⟨W, ⟨m0, h0⟩, hs⟩
theorem i_turn {W : Nat → L2.St → Hp → Prop} {tb : TS} {D : Ends} {σ : L2.St} {H : Hp} {m : Nat} (h : tb { D with nx := fun σ' H' => ∃ m', m' < m ∧ W m' σ' H', ct := fun σ' H' => ∃ m', m' < m ∧ W m' σ' H', bk := D.nx } σ H) :
    ∃ N : L2.St → Hp → Prop, (∀ σ' H', N σ' H' → ∃ m', m' < m ∧ W m' σ' H') ∧ tb { D with nx := N, ct := N, bk := D.nx } σ H := ⟨_, fun _ _ h => h, h⟩
theorem atI0 {α : Type} {x : α} {xs : List α} : atI (x :: xs) 0 = some x := atI_nat (j := 0) rfl
theorem atI1 {α : Type} {x y : α} {xs : List α} : atI (x :: y :: xs) 1 = some y := atI_nat (j := 1) rfl
theorem atI2 {α : Type} {x y z : α} {xs : List α} : atI (x :: y :: z :: xs) 2 = some z := atI_nat (j := 2) rfl
theorem atI3 {α : Type} {x y z u : α} {xs : List α} : atI (x :: y :: z :: u :: xs) 3 = some u := atI_nat (j := 3) rfl
theorem atI4 {α : Type} {x y z u t : α} {xs : List α} : atI (x :: y :: z :: u :: t :: xs) 4 = some t := atI_nat (j := 4) rfl
theorem sz5 {n : Nat} (h : n ≤ 1000000) : n ≤ sizeLine := Nat.le_trans h (by decide)
theorem sz5' {n : Nat} (h : n < 1000000) : n < sizeLine := Nat.lt_of_lt_of_le h (by decide)
theorem rev_last {α : Type} (z : α) (zs : List α) : (z :: zs).reverse[(z :: zs).reverse.length - 1]? = some z := by
  rw [List.reverse_cons]
  simp
theorem rev_drop {α : Type} (z : α) (zs : List α) : (z :: zs).reverse.dropLast = zs.reverse := by
  rw [List.reverse_cons, List.dropLast_concat]
theorem i_case {c : Bool} {A B : Prop} (h1 : c = true → A) (h2 : c = false → B) : if c = true then A else B := by
  cases c with
  | true => exact iteT (h1 rfl)
  | false => exact iteF (h2 rfl)
theorem nT {b : Bool} (h : (!b) = true) : b = false := by cases b <;> first | rfl | cases h
theorem nF {b : Bool} (h : (!b) = false) : b = true := by cases b <;> first | rfl | cases h
theorem i_join {t : TS} {D : Ends} {σ : L2.St} {H : Hp} (P : L2.St → Hp → Prop) (hr : ∀ σ' H', P σ' H' → D.nx σ' H') (h : (∀ σ' H', P σ' H' → D.nx σ' H') → t D σ H) : t D σ H := h hr
/-- forgetting the slots of a comprehension's own names -/
theorem atN {α : Type} {us : List α} {i : Nat} {x : α} (h : us[i]? = some x) : atI us (0 + (i : Int)) = some x := by rw [Int.zero_add]; exact atI_nat h
theorem none_upd {H : Hp} {a b : Addr} {o : HO} (h : upd H a o b = none) : b ≠ a ∧ H b = none := by
  by_cases e : b = a
  · subst e; rw [upd_same] at h; cases h
  · exact ⟨e, by rw [upd_ne e] at h; exact h⟩
theorem dI (a b : Int) : decide (V.int a = V.int b) = decide (a = b) := by
  by_cases h : a = b
  · subst h; simp
  · rw [decide_eq_false h, decide_eq_false (fun z => h (V.int.inj z))]
theorem dB (a b : Bool) : decide (V.bl a = V.bl b) = (a == b) := by cases a <;> cases b <;> rfl
theorem dS (a b : Str) : decide (V.str a = V.str b) = decide (a = b) := by
  by_cases h : a = b
  · subst h; simp
  · rw [decide_eq_false h, decide_eq_false (fun z => h (V.str.inj z))]
end Us
set_option maxRecDepth 100000
set_option maxHeartbeats 4000000
/-! super().__init__(P); self.F = P -/
namespace Us
open PySem PySem.Spec PyProof.Rows L2
abbrev supBody (PP F : Str) (q0 q1 q2 q3 q4 q5 q6 q7 q8 q9 : Pos) : List Stmt :=
  [.Expr (.Call (.Attribute (.Call (.Name "super" q0) [] [] q1) "__init__" q2) [.Name PP q3] [] q4) q5, .Assign [.Attribute (.Name "self" q6) F q7] (.Name PP q8) q9]
section
open PySem.W PySem.Calls
variable {P : Program} {w : World} {K : PySem.W.Frag} {A : Around} {s : Shared} {name qual : Str} {params : Arguments} {scope : Scope} {dV kV doc pm ct oc ccl cl : Value} {an od cdd cld : Option Addr} {osl ccs csl : Array (Option Value)} {vs : Array Value} {file : Str} {tf : Tok} {f cc cda C a t0 : Addr} {PP F : Str} {v : Value} {args : Args} {R : Result → Shared → Prop} {q0 q1 q2 q3 q4 q5 q6 q7 q8 q9 : Pos} {mg mb : Str → Option Value} {nm qn : Str} {N : Addr} {bs bm sub : List Value} {sn : List Str} {ab : Bool} {col : Option Bool} {dd : Option Addr} {k0 k1 k2 k3 k5 : Option Value} {ar : Arg}
theorem mw_call {prog : Program} {A : Around} {E : Value → Shared → Prop} {h : Heap} {g : Array GenState} {d : Drawn} {t : Nat} {os : OsState} {u : Addr} {rest : List Value} {Q : Value → Shared → Prop}
    (hC : h.get? C = some (excClassObj nm qn C N bs bm true sn sub ab col dd k0 k1 k2 k3 k5 "ValueError.__new__")) (he : h.get? a = some (PySem.HandSPX.excO C t0)) (hu : h.get? u = some (kxs_mw "ValueError.__init__" a)) (hz : rest.length ≤ sizeLine)
    (fin : ∀ h' t1, (∀ b o, b ≠ a → h.get? b = some o → h'.get? b = some o) → h'.get? a = some (PySem.HandSPX.excO C t1) → Q .none ⟨h', g, d, t, os⟩) : wpAny (model prog w) A (call (.ref u) rest) Q E ⟨h, g, d, t, os⟩ := by
  refine wpAny_call (codeAny_of_tree ?_)
  show wpAny _ A.in1 (callAny (.ref u) ⟨rest, []⟩) _ _ _
  simp only [callAny]
  refine wpAny_bind (wpAny_load hu ?_)
  simp only [kxs_mw, show (Value.type "method-wrapper" == Value.type "method" || Value.type "method-wrapper" == Value.type "builtin_function_or_method" || Value.type "method-wrapper" == Value.type "method-wrapper") = true by decide, if_true]
  refine KFB.if_so (by decide) ?_
  refine wpAny_bind (check_bound_init PySem.F.excBase_ValueError.toExcCallFacts hC he rfl ?_)
  refine wpAny_bind (wpAny_pure (wpAny_pure ?_))
  refine ⟨plainId_quiet PySem.F.excBase_ValueError.init.plain _, codeAny_builtin PySem.F.excBase_ValueError.initEntry ?_⟩
  exact exc_init_tree (cls := .ref C) (t0 := t0) (dv := none) (c2 := .none) (c3 := .none) (b4 := .bool false) he hz fun h' k e _ => fin h' _ k e
theorem super_code (hroom : A.depth < recursionLimit) (X : K.In s.heap) (lim : s.heap.NoLimit) (hG : s.heap.Ns mainGlobals mg) (hB : s.heap.Ns builtinsNs mb) (hmg : mg "super" = none) (hmb : mb "super" = some (.type "super"))
    (ho : K.lookup f = some ⟨oc, od, .func (ksFn name qual params (supBody PP F q0 q1 q2 q3 q4 q5 q6 q7 q8 q9) scope dV kV doc pm an (.ref cda) ct cc), osl⟩) (hcd : codeIn K (.ref cda) qual = true)
    (hbind : BindsTo s (ksFn name qual params (supBody PP F q0 q1 q2 q3 q4 q5 q6 q7 q8 q9) scope dV kV doc pm an (.ref cda) ct cc) args [("self", .ref a), (PP, v)]) (hps : (PP == ("self" : Str)) = false)
    (hp : (params.posonlyargs ++ params.args).head? = some ar) (har : ar.arg = "self")
    (hcode : K.lookup cda = some ⟨ccl, cdd, .fields vs, ccs⟩) (hvs : vs[2]? = some (.str file tf)) (hfile : ((P.main.file : Str) == file) = true) (htop : (P.main.scope.names.lookup ("super" : Str)).isSome = false)
    (hcell : K.lookup cc = some ⟨cl, cld, .cell (some (.ref C)), csl⟩) (hks : scope.names.lookup ("super" : Str) = some .globalImplicit) (hkc : scope.names.lookup ("__class__" : Str) = some .free) (hka : scope.names.lookup ("self" : Str) = some .local) (hkp : scope.names.lookup PP = some .local) (hk : scope.kind = .function)
    (hcells : ∀ x ∈ scope.names, x.2 ≠ .cell) (hco : scope.isCoroutine = false) (hgen : scope.isGenerator = false)
    (hC : K.lookup C = some (excClassObj nm qn C N bs bm true sn sub ab col dd k0 k1 k2 k3 k5 "ValueError.__new__")) (hbm : PySem.HandSPX.refsVE bm = true) (hsup : ks_superIn K C C "__init__" = some (some (.builtin "ValueError.__init__"))) (hnop : nsIn K cStatics "thirdparty.any" = some none)
    (hmro : mroIn K C (.ref C) = some true) (hVE : subIn K (.ref C) (.type "ValueError") = some true) (sa : findIn K (.ref C) "__setattr__" = some (some (.builtin "object.__setattr__"))) (hno : findIn K (.ref C) F = some none)
    (hx : s.heap.get? a = some (PySem.HandSPX.excO C t0)) (hPd : (PP == ("__debug__" : Str)) = false) (hq : (q2.endLine == q4.line) = true) (hKa : K.lookup a = none)
    (h : ∀ h' tk dx t1, (∀ b o, b ≠ a → s.heap.get? b = some o → h'.get? b = some o) → s.heap.objs.size ≤ dx → dx ≠ a → h'.get? a = some { cls := .ref C, dict := some dx, data := .fields #[.ref t1, .none, .none, .none, .bool false, .none] } → h'.Ns1 dx (fun y => if y = F then some v else none) → R (.ok (.ret .none)) { s with heap := h', toks := tk }) :
    codeAny (model P w) A (.call (.ref f) args) R s := by
  refine ks_codeAny_call_defAt (fd := ksFn name qual params (supBody PP F q0 q1 q2 q3 q4 q5 q6 q7 q8 q9) scope dV kV doc pm an (.ref cda) ct cc) (body := supBody PP F q0 q1 q2 q3 q4 q5 q6 q7 q8 q9) (binds := [("self", .ref a), (PP, v)]) hroom (X _ _ ho) rfl lim (codeRec_of X hcd) rfl hbind hcells (fun x hx => ?_) (fun h0 hns k0' => ?_) hco hgen hk
  · rcases List.mem_cons.mp hx with rfl | hx
    · exact hka
    · rcases List.mem_cons.mp hx with rfl | hx
      · exact hkp
      · cases hx
  obtain ⟨hh, g, d, t, os⟩ := s
  have X0 : K.In h0 := X.keeps k0'
  have G0 := hG.keeps k0'
  have B0 := hB.keeps k0'
  have hx0 := k0' _ _ hx
  have mS : (fun x => List.lookup x (List.reverse [(("self" : Str), Value.ref a), (PP, v)])) ("self" : Str) = some (.ref a) := by
    show List.lookup ("self" : Str) [(PP, v), ("self", .ref a)] = _
    have e : (("self" : Str) == PP) = false := by
      cases q : (("self" : Str) == PP) with
      | false => rfl
      | true => rw [eq_of_beq q, beq_self_eq_true] at hps; cases hps
    simp [List.lookup, e]
  have mP : (fun x => List.lookup x (List.reverse [(("self" : Str), Value.ref a), (PP, v)])) PP = some v := by
    show List.lookup PP [(PP, v), ("self", .ref a)] = _
    simp [List.lookup]
  have he : ∀ env : Env, eval (.Call (.Attribute (.Call (.Name "super" q0) [] [] q1) "__init__" q2) [.Name PP q3] [] q4) env = (do
      let ov ← attributeBase (.Call (.Name "super" q0) [] [] q1) "__init__" env (eval (.Call (.Name "super" q0) [] [] q1) env)
      standAt q2.atName
      let (f, first) ← holding [ov] (getMethod ov "__init__" (do return (← importBound (.Call (.Name "super" q0) [] [] q1) env).getD true))
      callWith q4 f first (backTo q4 (starEach [.Name PP q3] env)) []) := fun env => by
    show (do
      let ov ← attributeBase (.Call (.Name "super" q0) [] [] q1) "__init__" env (eval (.Call (.Name "super" q0) [] [] q1) env)
      standAt q2.atName
      methodCall (.Call (.Name "super" q0) [] [] q1) "__init__" q2 q4 env ov 1 (backTo q4 (starEach [.Name PP q3] env)) []) = _
    unfold methodCall methodCallPos
    rw [hq]
    rfl
  refine ks_wpAt_execs_cons (ks_wpAt_Expr_any (ks_wpAt_MethodCall ?main (he _)) ?hi ?hs)
  case hi => unfold interactive; rw [show (callEnv (ksFn name qual params (supBody PP F q0 q1 q2 q3 q4 q5 q6 q7 q8 q9) scope dV kV doc pm an (.ref cda) ct cc) hh.objs.size f).scope.kind = .function from hk]; rfl
  case hs => rfl
  obtain ⟨cdC, hcl, hcm, hcdd⟩ : ∃ cdC, clsIn K C = some cdC ∧ cdC.mro = .ref C :: bm ∧ cdC.hasDict = true := ⟨_, by unfold clsIn; rw [hC] <;> rfl, rfl, rfl⟩
  obtain ⟨oC, hC1, hC2⟩ : ∃ oD, h0.get? C = some oD ∧ ∃ cd, oD.data = .cls cd := ⟨_, X0 _ _ hC, _, rfl⟩
  obtain ⟨cdx, hC2⟩ := hC2
  refine ks_wpAt_super_base (f := f) (cc := cda) hks hkc (by decide) rfl (X0 _ _ ho) rfl hp rfl (X0 _ _ hcode) rfl hvs hfile htop ?_
  rw [har]
  refine ks_loadName_global hk hks (Calls.loadGlobal_builtin (env := callEnv (ksFn name qual params (supBody PP F q0 q1 q2 q3 q4 q5 q6 q7 q8 q9) scope dV kV doc pm an (.ref cda) ct cc) hh.objs.size f) G0 hmg B0 hmb ⟨rfl, ?_⟩)
  refine wpAny_loadName_free hk hkc rfl ⟨_, X0 _ _ hcell, rfl⟩ ?_
  refine wpAny_loadName_local hk hka hns mS ?_
  refine ks_wpAny_isType_cls hC1 hC2 ⟨rfl, ?_⟩
  refine ks_wpAny_call_super hC1 hC2 hx0 rfl (fun c e => by cases e) (looks_mroIn X0 hmro) (fun h1 e1 kk1 => ?_)
  have X1 : K.In h1 := X0.keeps kk1
  have hx1 := kk1 _ _ hx0
  have I1 : PySem.W.InstAt h1 a (PySem.HandSPX.excO C t0) C none := ⟨hx1, rfl, rfl, trivial⟩
  have hI : Looks (model P w) h1 (isInstance (.ref a) (.type "ValueError")) true := I1.type.andThen (looks_subIn X1 hVE)
  unfold ks_superIn at hsup
  rw [hcl] at hsup
  refine kxs_getMethod kxs_ValueError e1 (looks_opaque X1 hnop) (l₀ := cdC.mro) (fun A Q E s k q => wpAny_bind ((looks_clsIn X1 hcl) A _ E s k (wpAny_pure q))) rfl X1 hsup hI (ks_ne X1 I1 hcl) (by decide) ?_
  have kk2 : ∀ b o, h1.get? b = some o → (h1.push (kxs_mw "ValueError.__init__" a)).get? b = some o := fun b o e => Heap.get?_push_of_some _ e
  have eu : (h1.push (kxs_mw "ValueError.__init__" a)).get? h1.objs.size = some (kxs_mw "ValueError.__init__" a) := Heap.get?_push_at rfl rfl
  refine kxs_callWith (i := "ValueError.__init__") (x := a) (by rfl) ?_
  have kk3 : ∀ b o, h0.get? b = some o → (h1.push (kxs_mw "ValueError.__init__" a)).get? b = some o := fun b o e => kk2 _ _ (kk1 _ _ e)
  show wpAny _ _ (evalArgs _ true ((false, eval (.Name PP q3) _) :: backTo q4 (starEach [] _)) []) _ _ _
  refine evalArgs_plain (Calls.spliced_cons (wpAny_Name (wpAny_loadName_local hk hkp (hns.at fun o q => kk3 _ _ q) mP (Calls.spliced_nil ⟨eu, ?_⟩)) hPd))
  refine mw_call (kk3 _ _ (X0 _ _ hC)) (kk3 _ _ hx0) eu (by show 1 ≤ sizeLine; rw [sizeLine_eq]; omega) (fun h2 t1 k4 hx2 => ?_)
  have hLa : hh.objs.size ≠ a := fun z => absurd (Heap.lt_size hx) (by rw [z]; exact Nat.lt_irrefl _)
  have X2 : K.In h2 := fun b o e => k4 b o (fun z => by
    rw [z, hKa] at e
    cases e) ((X0.keeps kk3) _ _ e)
  have hns2 := hns.at (h' := h2) fun o q => k4 _ _ hLa (kk3 _ _ q)
  refine ks_wpAt_execs_cons (ks_wpAt_Assign_Attr (wpAt_of_wpAny (wpAny_Name (wpAny_loadName_local hk hkp hns2 mP (wpAny_Name (wpAny_loadName_local hk hka hns2 mS ?_) (by decide))) hPd)))
  refine PySem.W.set_plain X2 (ox := PySem.HandSPX.excO C t1) (od := none) ⟨hx2, rfl, rfl, trivial⟩ sa ?_
  refine PySem.HandSPX.exc_osa X2 hx2 hcl (show PySem.HandSPX.refsVE cdC.mro = true by rw [hcm]; exact hbm) hcdd hno (fun h3 tk dx k5 dn dne hx3 hn3 => ?_)
  show _root_.PySem.wpAt _ _ _ (execs [] _) _ _ _
  refine wpAt_of_wpAny (wpAny_pure ?_)
  have sz : hh.objs.size ≤ h2.objs.size := by
    obtain ⟨_, _, _, e1, _⟩ := hns2
    exact Nat.le_of_lt (Heap.lt_size e1)
  exact h h3 tk dx t1 (fun b o hb e => k5 b o hb (k4 b o hb (kk3 _ _ (k0' _ _ e)))) (Nat.le_trans sz dn) dne hx3 hn3
end
/-! ### the facts, as the head tells them -/
/-- what is looked at of a def that closes over __class__ -/
abbrev SupV : Type := Option (Str × Str × Arguments × FuncBody × Scope × Addr × List Str × Value × Addr)
def supObs (K : PySem.W.Frag) (f : Addr) : SupV := match K.lookup f with
  | some ⟨_, _, .func fd, _⟩ => some (fd.name, fd.qualname, fd.params, fd.body, fd.scope, fd.globals, fd.closure.map (·.1), fd.defaults, fd.builtins)
  | _ => none
structure SupT where
  x : Str
  name : Str
  qual : Str
  params : Arguments
  PP : Str
  F : Str
  q : List Pos
  scope : Scope
abbrev SupT.body (d : SupT) : List Stmt := supBody d.PP d.F (d.q.getD 0 ⟨0, 0, 0, 0⟩) (d.q.getD 1 ⟨0, 0, 0, 0⟩) (d.q.getD 2 ⟨0, 0, 0, 0⟩) (d.q.getD 3 ⟨0, 0, 0, 0⟩) (d.q.getD 4 ⟨0, 0, 0, 0⟩) (d.q.getD 5 ⟨0, 0, 0, 0⟩) (d.q.getD 6 ⟨0, 0, 0, 0⟩) (d.q.getD 7 ⟨0, 0, 0, 0⟩) (d.q.getD 8 ⟨0, 0, 0, 0⟩) (d.q.getD 9 ⟨0, 0, 0, 0⟩)
def SupT.val (d : SupT) : SupV := some (d.name, d.qual, d.params, .stmts d.body, d.scope, mainGlobals, ["__class__"], .none, builtinsNs)
/-- of the def's text alone -/
structure SupT.Ok (d : SupT) (P : Program) : Prop where
  hps : (d.PP == ("self" : Str)) = false
  bind : ∀ (kV doc pm : Value) (an : Option Addr) (cdv ct : Value) (cc : Addr) (u v : Value), bindArgs (PySem.W.ksFn d.name d.qual d.params d.body d.scope .none kV doc pm an cdv ct cc) ⟨[u, v], []⟩ = pure [(("self" : Str), u), (d.PP, v)]
  hp : ∃ ar, (d.params.posonlyargs ++ d.params.args).head? = some ar ∧ ar.arg = "self"
  htop : (P.main.scope.names.lookup ("super" : Str)).isSome = false
  hks : d.scope.names.lookup ("super" : Str) = some .globalImplicit
  hkc : d.scope.names.lookup ("__class__" : Str) = some .free
  hka : d.scope.names.lookup ("self" : Str) = some .local
  hkp : d.scope.names.lookup d.PP = some .local
  hk : d.scope.kind = .function
  hcells : ∀ x ∈ d.scope.names, x.2 ≠ .cell
  hco : d.scope.isCoroutine = false
  hgen : d.scope.isGenerator = false
  hPd : (d.PP == ("__debug__" : Str)) = false
  hq : ((d.q.getD 2 ⟨0, 0, 0, 0⟩).endLine == (d.q.getD 4 ⟨0, 0, 0, 0⟩).line) = true
/-- of the heap -/
def supBs (d : SupT) (file : Str) (K : PySem.W.Frag) : List Bool :=
  [(match K.lookup (He.ma K (He.ga K d.x) "__init__") with
    | some ⟨_, _, .func fd, _⟩ => PySem.W.codeIn K fd.code d.qual && ((match fd.code with
        | .ref c => (match K.lookup c with
          | some ⟨_, _, .fields vs, _⟩ => (match (vs[2]? : Option Value) with
            | some (.str z _) => file == z
            | _ => false)
          | _ => false)
        | _ => false) && (match fd.closure with
        | [(_, cc)] => (match K.lookup cc with
          | some ⟨_, _, .cell (some (.ref D)), _⟩ => D == He.ga K d.x
          | _ => false)
        | _ => false))
    | _ => false),
   PySem.W.excInitIn K (He.ga K d.x) He.veBase "ValueError.__new__",
   PySem.W.hasDictIn K (He.ga K d.x),
   decide (PySem.W.ks_superIn K (He.ga K d.x) (He.ga K d.x) "__init__" = some (some (.builtin "ValueError.__init__"))),
   decide (PySem.W.nsIn K cStatics "thirdparty.any" = some none),
   decide (PySem.W.mroIn K (He.ga K d.x) (.ref (He.ga K d.x)) = some true),
   decide (PySem.W.subIn K (.ref (He.ga K d.x)) (.type "ValueError") = some true),
   decide (PySem.W.findIn K (.ref (He.ga K d.x)) "__setattr__" = some (some (.builtin "object.__setattr__"))),
   decide (PySem.W.findIn K (.ref (He.ga K d.x)) d.F = some none),
   decide (PySem.W.subIn K (.ref (He.ga K d.x)) (.type "BaseException") = some true),
   decide (PySem.W.typeIn K (.ref (He.ga K d.x)) = some (.type "type")),
   PySem.W.keepIn K (.ref (He.ga K d.x)),
   decide (PySem.W.findIn K (.ref (He.ga K d.x)) "__init__" = some (some (.ref (He.ma K (He.ga K d.x) "__init__")))),
   decide (PySem.W.typeIn K (.ref (He.ma K (He.ga K d.x) "__init__")) = some (.type "function")),
   decide (PySem.W.nsIn K mainGlobals "super" = some none),
   decide (PySem.W.nsIn K mainGlobals d.x = some (some (.ref (He.ga K d.x)))),
   xfB K (He.ga K d.x)]
def supB (d : SupT) (file : Str) (K : PySem.W.Frag) : Bool := (supBs d file K).all id
theorem supB_at {d : SupT} {file : Str} {K : PySem.W.Frag} (h : supB d file K = true) (i : Nat) {b : Bool} (e : (supBs d file K)[i]? = some b) : b = true :=
  List.all_eq_true.mp h b (List.mem_of_getElem? e)
/-- what the walk leans on -/
structure SupOk (P : Program) (K : PySem.W.Frag) (d : SupT) : Prop where
  t : d.Ok P
  b : supB d P.main.file K = true
  v : supObs K (He.ma K (He.ga K d.x) "__init__") = d.val
section
variable {P : Program} {K : PySem.W.Frag} {d : SupT}
theorem SupOk.at (S : SupOk P K d) (i : Nat) {b : Bool} (e : (supBs d P.main.file K)[i]? = some b := by rfl) : b = true := supB_at S.b i e
theorem SupOk.cls (S : SupOk P K d) : ∃ nm q N bs bm sn sub ab col dd k0 k1 k2 k3 k5, K.lookup (He.ga K d.x) = some (excClassObj nm q (He.ga K d.x) N bs bm true sn sub ab col dd k0 k1 k2 k3 k5 "ValueError.__new__") ∧ PySem.HandSPX.refsVE bm = true := by
  have q := S.at 1
  have q2 := S.at 2
  unfold PySem.W.excInitIn at q
  split at q
  · rename_i dd cd sl ho
    split at q
    · rename_i C' bm k0 k1 k2 k3 n k5 hm hs
      simp only [Bool.and_eq_true, beq_iff_eq, Bool.not_eq_true'] at q
      obtain ⟨⟨⟨rfl, rfl⟩, hdel⟩, ht⟩ := q
      obtain ⟨nm, bs, mro, ns, qn, hd, sn, sub, ab, col, del⟩ := cd
      dsimp only at hm hdel
      subst hm hdel
      have hsl : sl = #[k0, k1, k2, k3, some (.builtin "ValueError.__new__"), k5] := by
        obtain ⟨l⟩ := sl
        simp only at hs
        rw [hs]
      subst hsl
      have hh : hd = true := by
        unfold PySem.W.hasDictIn PySem.W.clsIn at q2
        rw [ho] at q2
        exact q2
      subst hh
      refine ⟨nm, qn, ns, bs, bm, sn, sub, ab, col, dd, k0, k1, k2, k3, k5, ho, ?_⟩
      have : ∀ l : List Value, PySem.W.excTail He.veBase l = true → PySem.HandSPX.refsVE l = true := by
        intro l
        induction l with
        | nil => intro e; exact absurd e (by decide)
        | cons a r ih =>
          intro e
          rcases PySem.W.excTail_cases (a :: r) e with ⟨c, r', q, h'⟩ | q
          · obtain ⟨rfl, rfl⟩ := List.cons.inj q
            exact ih h'
          · rw [q]; decide +kernel
      exact this _ ht
    · cases q
  · cases q
theorem SupOk.oexC (S : SupOk P K d) : OexC K (He.ga K d.x) where
  cls := S.cls
  sa := of_decide_eq_true (S.at 7)
  exC := of_decide_eq_true (S.at 9)
  tyC := of_decide_eq_true (S.at 10)
  kC := S.at 11
theorem SupOk.xfC (S : SupOk P K d) : XfC K (He.ga K d.x) := xfB_ok (S.at 16)
theorem SupOk.fn (S : SupOk P K d) : ∃ oc od osl kV doc pm an cda ct cc, K.lookup (He.ma K (He.ga K d.x) "__init__") = some ⟨oc, od, .func (PySem.W.ksFn d.name d.qual d.params d.body d.scope .none kV doc pm an (.ref cda) ct cc), osl⟩ ∧ PySem.W.codeIn K (.ref cda) d.qual = true ∧
    (∃ ccl cdd vs ccs file tf, K.lookup cda = some ⟨ccl, cdd, .fields vs, ccs⟩ ∧ vs[2]? = some (.str file tf) ∧ ((P.main.file : Str) == file) = true) ∧ ∃ cl cld csl, K.lookup cc = some ⟨cl, cld, .cell (some (.ref (He.ga K d.x))), csl⟩ := by
  have e := S.v
  have c2 := S.at 0
  unfold supObs at e
  cases q : K.lookup (He.ma K (He.ga K d.x) "__init__") with
  | none =>
    rw [q] at e
    cases e
  | some o =>
    obtain ⟨oc, od, dt, osl⟩ := o
    rw [q] at c2 e
    cases dt with
    | func fd =>
      obtain ⟨n1, n2, n3, n4, n5, n6, n7, n8, n9, n10, n11, n12, n13, n14, n15⟩ := fd
      have e2 : (some (n1, n2, n3, n4, n5, n6, n7.map (·.1), n8, n15) : SupV) = d.val := e
      unfold SupT.val at e2
      simp only [Option.some.injEq, Prod.mk.injEq] at e2
      obtain ⟨h1, h2, h3, h4, h5, h6, h7, h8, h9⟩ := e2
      subst h1 h2 h3 h4 h5 h6 h8 h9
      dsimp only at c2
      obtain ⟨b1, b2⟩ := He.ba c2
      obtain ⟨b3, b4⟩ := He.ba b2
      split at b3
      · rename_i c
        split at b3
        · rename_i ccl cdd vs ccs hc
          split at b3
          · rename_i z tz hz
            split at b4
            · rename_i nn cc
              split at b4
              · rename_i cl cld D csl hcc
                obtain rfl : D = He.ga K d.x := eq_of_beq b4
                have hn : nn = "__class__" := by
                  exact (List.cons.inj (show [nn] = [("__class__" : Str)] from h7)).1
                subst hn
                exact ⟨oc, od, osl, n9, n10, n11, n12, c, n14, cc, rfl, b1, ⟨ccl, cdd, vs, ccs, z, tz, hc, hz, b3⟩, cl, cld, csl, hcc⟩
              · cases b4
            · cases b4
          · cases b3
        · cases b3
      · cases b3
    | _ => cases e
end
/-! ### the promise and the rule -/
def supSp (C : Addr) (F : Str) : Sp := fun vs H Q E => ∃ (a : Addr) (v : V), vs = [.ref a, v] ∧ H a = some (exo a C none) ∧ ∀ dx, H dx = none → dx ≠ a → Q .non (upd (upd H dx (exd dx [(F, v)])) a (exo a C (some dx)))
theorem SupOk.ok {P : Program} {w : World} {K : PySem.W.Frag} {mg : Str → Option Value} {base : Heap} {CX : CXT} {d : SupT} (S : SupOk P K d) : ∃ fd, FnOk P w K mg base CX 1 (He.ma K (He.ga K d.x) "__init__") fd ["self", d.PP] (supSp (He.ga K d.x) d.F) ∧ L2.Binds K fd ["self", d.PP] [] := by
  obtain ⟨oc, od, osl, kV, doc, pm, an, cda, ct, cc, lk, hcd, ⟨ccl, cdd, vs0, ccs, file, tf, hcode, hvs, hfile⟩, cl, cld, csl, hcell⟩ := S.fn
  obtain ⟨nm, q, N, bs, bm, sn, sub, ab, col, dd, k0, k1, k2, k3, k5, hC, hbm⟩ := S.cls
  obtain ⟨ar, har1, har2⟩ := S.t.hp
  refine ⟨PySem.W.ksFn d.name d.qual d.params d.body d.scope .none kV doc pm an (.ref cda) ct cc, ⟨fun vs H Q E h => ?_, fun A outer s H args us vs Q E hr e0 hb r hsp => ?_⟩, Binds.all fun us hl => ?_⟩
  · obtain ⟨a, v, rfl, _⟩ := h
    rfl
  rotate_left
  · match us, hl with
    | [u, v], _ => exact S.t.bind kV doc pm an _ ct cc u v
  obtain ⟨a, v, rfl, ha, hq⟩ := hsp
  obtain ⟨u0, u, rfl, r0, r1⟩ := vals2 r
  obtain rfl : u0 = Value.ref a := r0
  have KX : K.In s.heap := e0.mod.kin.keeps fun b o e => (e0.bs b o e).1
  have lim : s.heap.NoLimit := e0.mod.nolimit.keeps fun b o e => (e0.bs b o e).1
  have hG := e0.mod.glob.keeps (h' := s.heap) fun b o e => (e0.bs b o e).1
  obtain ⟨mb, hB0, hBv⟩ := e0.mod.blt
  have hB := hB0.keeps (h' := s.heap) fun b o e => (e0.bs b o e).1
  obtain ⟨t0, hx⟩ := exo_at e0.hok ha
  have hKa : K.lookup a = none := by
    cases e : K.lookup a with
    | none => rfl
    | some o =>
      have z := (e0.bs a o (e0.mod.kin _ _ e)).2
      rw [ha] at z
      cases z
  refine super_code (mg := mg) (mb := mb) (t0 := t0) (v := u) hr.depth KX lim hG hB (PySem.W.mg_none_of e0.mod.kin e0.mod.glob (of_decide_eq_true (S.at 14))) ((hBv _ (by decide)).trans (by first | rfl | decide +kernel | kernel_rfl)) lk hcd hb S.t.hps har1 har2 hcode hvs hfile S.t.htop hcell S.t.hks S.t.hkc S.t.hka S.t.hkp S.t.hk S.t.hcells S.t.hco S.t.hgen hC hbm
    (of_decide_eq_true (S.at 3)) (of_decide_eq_true (S.at 4)) (of_decide_eq_true (S.at 5)) (of_decide_eq_true (S.at 6)) (of_decide_eq_true (S.at 7)) (of_decide_eq_true (S.at 8)) hx S.t.hPd S.t.hq hKa (fun h' tk dx t1 k dn dne hx' hn' => ?_)
  have hnd : H dx = none := e0.hok.fresh dn
  have nd : ∀ {b : Addr} {o : Obj}, s.heap.get? b = some o → b ≠ dx := fun {b o} q => Nat.ne_of_lt (Nat.lt_of_lt_of_le (Heap.lt_size q) dn)
  have na : ∀ {b : Addr}, H b = none → b ≠ a := fun {b} n z => by
    rw [z, ha] at n
    cases n
  refine ⟨.non, upd (upd H dx (exd dx [(d.F, v)])) a (exo a (He.ga K d.x) (some dx)), rfl, e0.bare, ?_, fun b o q => ?_, rfl, hq dx hnd dne⟩
  · exact {
      keep := fun b o q n _ _ => k b o (na n) q
      slot := fun b o q n _ _ => ⟨o.slots, k b o (na n) q⟩
      free := fun b o q n _ => by rw [upd_ne (na n), upd_ne (nd q)]; exact n
      there := fun b o q _ => by
        by_cases hb : b = a
        · exact ⟨_, by rw [hb]; exact hx'⟩
        · exact ⟨o, k b o hb q⟩
      tups := fun b xs q => by rw [upd_ne (at_ne ha q exo_tup), upd_ne (ne_of_none q hnd)]; exact q
      frzs := fun b o v q => by rw [upd_ne (at_ne ha q exo_frz), upd_ne (ne_of_none q hnd)]; exact q
      tbls := fun b ps q => ⟨#[], by rw [upd_ne (at_ne ha q exo_tbl), upd_ne (ne_of_none q hnd), q]; simp⟩ }
  by_cases hb : b = a
  · subst hb
    rw [upd_same] at q
    cases q
    exact exo_ok hx'
  · rw [upd_ne hb] at q
    by_cases hd : b = dx
    · subst hd
      rw [upd_same] at q
      cases q
      exact exd_ok hn' (relO_put (fs := []) r1 fun g => True.intro)
    · rw [upd_ne hd] at q
      exact (e0.hok b o q).stay (fun c v hc z => k c v (by
          rcases hc with hc | hc
          · rw [hc]
            exact hb
          · exact at_ne ha hc exo_own) z)
        (fun c hc => by rw [upd_ne (at_ne ha hc exo_own), upd_ne (ne_of_none hc hnd)]; exact hc) (fun c xs hc => by rw [upd_ne (at_ne ha hc exo_tup), upd_ne (ne_of_none hc hnd)]; exact hc)
/-- C(e), C an own exception with one field -/
def SupQ (C : Addr) (F : Str) (v : V) (H1 : Hp) (Q : XK) : Prop := [v].length ≤ 1000 ∧ ∀ a, H1 a = none → supSp C F (.ref a :: ([v] ++ [])) (upd H1 a (exo a C none))
  (fun y H2 => y = .non ∧ ∃ (dx : Addr) (fs : List (Str × V)), H2 a = some (exo a C (some dx)) ∧ H2 dx = some (exd dx fs) ∧ H1 dx = none ∧ Q (.ref C) (some dx) (upd (del H2 a) dx (.xd fs))) (fun _ _ _ => False)
def tSup (C : Addr) (F : Str) (te : TE) : L2.St → Hp → XK → Prop := fun σ H Q => te σ H fun v H1 => SupQ C F v H1 Q
theorem i_sup {C : Addr} {F : Str} {v : V} {H1 : Hp} {Q : XK} (q : ∀ d, H1 d = none → Q (.ref C) (some d) (upd H1 d (.xd [(F, v)]))) : SupQ C F v H1 Q := by
  refine ⟨by simp, fun a ha => ⟨a, v, rfl, upd_same, fun dx hn hne => ⟨rfl, dx, [(F, v)], upd_same, ?_, ?_, ?_⟩⟩⟩
  · rw [upd_ne hne, upd_same]
  · rw [upd_ne hne] at hn
    exact hn
  · rw [upd_ne hne] at hn
    have e : upd (del (upd (upd (upd H1 a (exo a C none)) dx (exd dx [(F, v)])) a (exo a C (some dx))) a) dx (.xd [(F, v)]) = upd H1 dx (.xd [(F, v)]) := by
      funext b
      by_cases h1 : b = dx
      · subst h1; rw [upd_same, upd_same]
      · rw [upd_ne h1, upd_ne h1]
        by_cases h2 : b = a
        · subst h2; rw [del_same, ha]
        · rw [del_ne h2, upd_ne h2, upd_ne h1, upd_ne h2]
    rw [e]
    exact q dx hn
theorem i_tsup {C : Addr} {F : Str} {te : TE} {σ : L2.St} {H : Hp} {Q : XK} (h : te σ H fun v H1 => SupQ C F v H1 Q) : tSup C F te σ H Q := h
theorem pmk_sup {X : Cx} {CX : CXT} {d : SupT} {te : TE} {e : Expr} {p pos : Pos} {k : Nat} (S : SupOk X.prog X.K d) (gC : X.mg d.x = some (.ref (He.ga X.K d.x))) (hr : Room (k + 2) X.A) (hg : Gl X d.x) (hx : Passes CX X (fun _ _ _ => False)) (he : PE X e te)
    (hdb : (d.x == ("__debug__" : Str)) = false := by decide) (hs : starEach [e] X.env = (false, eval e X.env) :: starEach [] X.env := by rfl) : PMk X (.Call (.Name d.x p) [e] [] pos) (tSup (He.ga X.K d.x) d.F te) := by
  obtain ⟨fd, F1, hb⟩ := S.ok (w := X.w) (mg := X.mg) (base := X.base) (CX := CX)
  exact pmk_oex (x := d.x) (p := p) (pos := pos) (e := e) (es := []) S.oexC (of_decide_eq_true (S.at 12)) (of_decide_eq_true (S.at 13)) F1 (hr.mono (by omega)) hb .nil hx hg gC (pa_cons he pa_nil hs) hdb hs
/-! ### the hook -/
abbrev AlY : Type := He.AlD × Bool × List SupV
def obsY (fa : List He.Fa) (fn : List He.DefD) (ss : List SupT) (ex : PySem.W.Frag → Bool) (K : PySem.W.Frag) : AlY := (He.obsD fa fn K, ex K, ss.map fun d => supObs K (He.ma K (He.ga K d.x) "__init__"))
def obsYG (n : Nat) (fa : List He.Fa) (fn : List He.DefD) (ss : List SupT) (ex : PySem.W.Frag → Bool) (g : Addr → Option Obj) : AlY := obsY fa fn ss ex (He.frG g (cStatics :: He.asD g n))
def SaysS (ss : List SupT) (K : PySem.W.Frag) : Prop := (ss.map fun d => supObs K (He.ma K (He.ga K d.x) "__init__")) = ss.map SupT.val
theorem SaysS.at {ss : List SupT} {K : PySem.W.Frag} (c : SaysS ss K) (i : Nat) {d : SupT} (h : ss[i]? = some d := by rfl) : supObs K (He.ma K (He.ga K d.x) "__init__") = d.val := by
  have e2 : (ss.map fun d => supObs K (He.ma K (He.ga K d.x) "__init__"))[i]? = (ss.map SupT.val)[i]? := by rw [show _ = _ from c]
  rw [List.getElem?_map, List.getElem?_map, h] at e2
  exact Option.some.inj e2
def hookY (n : Nat) (fa : List He.Fa) (fn : List He.DefD) (ss : List SupT) (ex : PySem.W.Frag → Bool) : PySem.W.Hook where
  α := AlY
  obs := fun s => obsYG n fa fn ss ex s.heap.get?
  val := fun _ => (He.valD fn, true, ss.map SupT.val)
  says := fun _ h => ∃ K : PySem.W.Frag, K.In h ∧ He.SaysD fa fn K ∧ ex K = true ∧ SaysS ss K
  of := fun _ _ e => ⟨_, He.frG_in, congrArg (fun z : AlY => z.1) e, congrArg (fun z : AlY => z.2.1) e, congrArg (fun z : AlY => z.2.2) e⟩
  keeps := fun _ _ _ ⟨K, hK, c⟩ k => ⟨K, PySem.W.Frag.In.keeps hK k, c⟩
theorem obsYG_eq {n : Nat} {fa : List He.Fa} {fn : List He.DefD} {ss : List SupT} {ex : PySem.W.Frag → Bool} {g : Addr → Option Obj} {s : Shared} (h : ∀ a, g a = s.heap.get? a) : obsYG n fa fn ss ex g = (hookY n fa fn ss ex).obs s := by
  have e : g = s.heap.get? := funext h
  rw [e] <;> rfl
end Us
namespace Us
open PySem PySem.Spec PyProof.Rows L2
/-- an object of ours that is written -/
def Own (B H : Hp) (c : Addr) (o : HO) : Prop := B c = none ∧ H c = some o
theorem Own.mono {ms : List Addr} {B H B' H' : Hp} {c : Addr} {o : HO} (g : Gr ms B H B' H') (hc : c ∉ ms) (h : Own B H c o) : Own B' H' c o := ⟨g.bnone h.1 h.2, g.keep _ _ hc h.2⟩
theorem Own.up {B H B' H' : Hp} {c : Addr} {o : HO} (g : Gr [] B H B' H') (h : Own B H c o) : Own B' H' c o := h.mono g (fun z => nomatch z)
theorem Own.cell {B H : Hp} {c : Addr} {o : HO} (s : Same B H) (h : H c = none) : Own B (upd H c o) c o := ⟨bfresh s h, upd_same⟩
/-- it is written -/
theorem Own.put {B H : Hp} {c : Addr} {o u : HO} (h : Own B H c o) : Own B (upd H c u) c u := ⟨h.1, upd_same⟩
theorem Gr.put {ms : List Addr} {B0 H0 B H : Hp} {c : Addr} {o u : HO} (g : Gr ms B0 H0 B H) (h0 : H0 c = none) (h : Own B H c o) : Gr ms B0 H0 B (upd H c u) := g.setN h0 h.1
theorem Own.other {B H : Hp} {c d : Addr} {o u v : HO} (h : Own B H c o) (hd : d ≠ c) : Own B (upd H d u) c o := ⟨h.1, by rw [upd_ne (Ne.symm hd)]; exact h.2⟩
theorem Gr.good {ms : List Addr} {B H B' H' : Hp} {p : Addr} {o : HO} (g : Gr ms B H B' H') (h : B p = some o) : H' p = some o := g.bh _ _ (g.bb _ _ h)
section
variable {H : Hp} {Q : VK} {i : Int} {p : Addr} {z : Str} {b : Bool}
theorem i_isNn (q : Q (.bl true) H) : rIsNU .non .non H Q := i_isN q
theorem i_isNi (q : Q (.bl false) H) : rIsNU (.int i) .non H Q := i_isN q
theorem i_isNr (q : Q (.bl false) H) : rIsNU (.ref p) .non H Q := i_isN q
theorem i_isNs (q : Q (.bl false) H) : rIsNU (.str z) .non H Q := i_isN q
theorem i_isNb (q : Q (.bl false) H) : rIsNU (.bl b) .non H Q := i_isN q
theorem i_ntNn (q : Q (.bl false) H) : rNotNU .non .non H Q := i_notN q
theorem i_ntNi (q : Q (.bl true) H) : rNotNU (.int i) .non H Q := i_notN q
theorem i_ntNr (q : Q (.bl true) H) : rNotNU (.ref p) .non H Q := i_notN q
theorem i_ntNs (q : Q (.bl true) H) : rNotNU (.str z) .non H Q := i_notN q
theorem i_ntNb (q : Q (.bl true) H) : rNotNU (.bl b) .non H Q := i_notN q
end
end Us
set_option maxRecDepth 100000
set_option maxHeartbeats 4000000
/-! ==, != and in by an own __eq__, whatever it answers -/
namespace Us
open PySem PySem.Spec PyProof.Rows L2
/-- what the class at C must have -/
structure OwnQ (K : PySem.W.Frag) (C f : Addr) : Prop where
  eq : PySem.W.findIn K (.ref C) "__eq__" = some (some (.ref f))
  fn : PySem.W.isFn K (.ref f) = true
  ne : PySem.W.findIn K (.ref C) "__ne__" = some (some (.builtin "object.__ne__"))
  ob : PySem.W.subIn K (.ref C) (.type "object") = some true
  no : ∀ n ∈ (["str", "tuple", "list", "NoneType", "int", "bool", "dict"] : List String), PySem.W.subIn K (.ref C) (.type n) = some false
  on : ∀ n ∈ (["str", "tuple", "list", "NoneType", "int", "bool", "dict"] : List String), PySem.W.subIn K (.type n) (.ref C) = some false
abbrev sevenT : List String := ["str", "tuple", "list", "NoneType", "int", "bool", "dict"]
def ownQs (K : PySem.W.Frag) (C f : Addr) : List Bool := [decide (PySem.W.findIn K (.ref C) "__eq__" = some (some (.ref f))), PySem.W.isFn K (.ref f), decide (PySem.W.findIn K (.ref C) "__ne__" = some (some (.builtin "object.__ne__"))), decide (PySem.W.subIn K (.ref C) (.type "object") = some true),
  sevenT.all (fun n => decide (PySem.W.subIn K (.ref C) (.type n) = some false)), sevenT.all (fun n => decide (PySem.W.subIn K (.type n) (.ref C) = some false))]
def ownQB (K : PySem.W.Frag) (C f : Addr) : Bool := (ownQs K C f).all id
theorem all_at {l : List Bool} (h : l.all id = true) (i : Nat) {b : Bool} (e : l[i]? = some b) : b = true := List.all_eq_true.mp h b (List.mem_of_getElem? e)
theorem ownQ_of {K : PySem.W.Frag} {C f : Addr} (h : ownQB K C f = true) : OwnQ K C f :=
  ⟨of_decide_eq_true (all_at h 0 rfl), all_at h 1 rfl, of_decide_eq_true (all_at h 2 rfl), of_decide_eq_true (all_at h 3 rfl), fun n hn => of_decide_eq_true (List.all_eq_true.mp (all_at h 4 rfl) n hn), fun n hn => of_decide_eq_true (List.all_eq_true.mp (all_at h 5 rfl) n hn)⟩
section
variable {X : Cx} {CX : CXT} {C f : Addr} {fd : FuncData} {ps : List Str} {sp : Sp} {E : XK} {n : Nat}
/-- what the own __eq__ is asked -/
abbrev EqS (sp : Sp) (E : XK) (x y : V) (H : Hp) (Q : Bool → Hp → Prop) : Prop := sp [x, y] H (fun v H' => ∃ b, v = .bl b ∧ Q b H') E
/-- the call, at any place below the running body -/
theorem own_call (F : FnOk X.prog X.w X.K X.mg X.base CX n f fd ps sp) (hb : L2.Binds X.K fd ps []) (hx : Passes CX X E) {A : Around} {pins : List (Addr × Obj)} {s : Shared} {σ : L2.St} {H : Hp} {x y : V} {u v : Value} {Q : Bool → Hp → Prop} (sb : Sub X n A) (I : Inv X pins σ H s) (rx : RelV x u) (ry : RelV y v) (h : EqS sp E x y H Q) :
    wpAny (model X.prog X.w) A (call (.ref f) [u, v]) (fun r s' => ∃ b H', r = .bool b ∧ Inv X pins σ H' s' ∧ Q b H') X.xe s := by
  have e0 : Env0 X.prog X.w X.K X.mg X.base A X.stack s H := by
    have e := I.env0
    exact ⟨by rw [sb.fr]; exact e.frames, e.mod, e.bs, e.bsz, e.funs, e.frf, e.hok, e.bare⟩
  have hl := F.len _ _ _ _ h
  have r2 : Vals [x, y] [u, v] := .cons rx (.cons ry .nil)
  refine wpAny_call (codeAny_mono (F.run A X.stack s H ⟨[u, v], []⟩ [u, v] [x, y] _ E sb.room e0 (by
    have := hb s [u, v] I.kIn (by simpa using hl)
    simpa using this) r2 h) fun r s' hq => ?_)
  cases r with
  | error e => exact hx pins σ H s e s' I hq
  | ok fl =>
    cases fl with
    | ret w =>
      obtain ⟨z, H', I', rz, b, ez, q⟩ := I.after hq
      subst ez
      exact ⟨b, H', rz, I', q⟩
    | next => exact False.elim hq
    | brk => exact False.elim hq
    | cont => exact False.elim hq
/-- the type of y doesn't come first -/
def NotFirst (K : PySem.W.Frag) (C : Addr) (H : Hp) (y : V) : Prop := ∃ t, TyX K H y t ∧ PySem.W.notFirst K C t = true
def rEqO (K : PySem.W.Frag) (C : Addr) (sp : Sp) (E : XK) : R2 := fun x y H Q => ∃ a dx fs, x = .ref a ∧ H a = some (.ins C dx fs) ∧ NotFirst K C H y ∧ EqS sp E x y H fun b H' => Q (.bl b) H'
theorem op_eqO (F : FnOk X.prog X.w X.K X.mg X.base CX n f fd ps sp) (T : OwnQ X.K C f) (hb : L2.Binds X.K fd ps []) (hx : Passes CX X E) (hr : Room n X.A) : OpR X (compareOp .Eq) (rEqO X.K C sp E) := by
  intro pins s σ H x y u v Q I rx ry h
  obtain ⟨a, dx, fs, rfl, ha, ⟨t, ty, nf⟩, h⟩ := h
  cases rx
  obtain ⟨mA, J, _⟩ := ins_get I.hok ha
  obtain ⟨od, J, _⟩ := J.look
  obtain ⟨m, hF⟩ := I.fr
  obtain ⟨P, kx, hP, _⟩ := kit_of I ry ty
  show wpAny (model X.prog X.w) X.A (richCompare .Eq (.ref a) v) (EP X pins σ Q) X.xe s
  refine PySem.W.cmp_K (op := .Eq) hr.units0 hF I.ok.mod.kin J (kx.ty _ _ I.kIn hP) nf T.eq T.fn ?_
  refine wpAny_mono (own_call F hb hx ⟨hr, rfl⟩ (x := .ref a) (u := .ref a) I rfl ry h) (fun r s' q => ?_) fun _ _ x => x
  obtain ⟨b, H', rfl, I', q⟩ := q
  exact ⟨.bl b, H', I', rfl, q⟩
/-! ### != -/
theorem try_ne {A : Around} {pins : List (Addr × Obj)} {s : Shared} {σ : L2.St} {H : Hp} {a dx : Addr} {fs : List (Str × V)} {v : Value} {Q : Option Value → Shared → Prop} {E' : Value → Shared → Prop} (T : OwnQ X.K C f) (I : Inv X pins σ H s) (ha : H a = some (.ins C dx fs)) (hu : A.in1.units < cLine)
    (h : wpAny (model X.prog X.w) A.in1 (call (.ref f) [.ref a, v]) (fun r s' => ∃ b, r = .bool b ∧ Q (some (.bool !b)) s') E' s) : wpAny (model X.prog X.w) A (tryCompare (.ref a) "__ne__" v) Q E' s := by
  obtain ⟨mA, J, _⟩ := ins_get I.hok ha
  obtain ⟨od, J, _⟩ := J.look
  have X' := I.kIn
  have body : wpAny (model X.prog X.w) A (call (.builtin "object.__ne__") [.ref a, v]) (fun r s' => ∃ b, r = .bool b ∧ Q (some (.bool b)) s') E' s := by
    refine wpAny_call (codeAny_call_builtin PySem.F.cmp_object.ne.plain PySem.F.cmpEntry_ne (PySem.W.check_slot PySem.F.cmpKind_ne PySem.F.cmpSplit_ne (J.type.andThen (PySem.W.looks_subIn X' T.ob)) (PySem.F.cmpArgs_ne _ _) ?_))
    unfold Builtin.«object.__ne__»
    show wpAny _ _ (cRoomFor "comparison" [.ref a, v] >>= _) _ _ _
    refine wpAny_bind (wpAny_cRoomFor hu ?_)
    refine wpAny_bind (PySem.W.ifBound_K X' J T.eq T.fn (wpAny_mono h (fun r s' q => ?_) fun _ _ x => x))
    obtain ⟨b, rfl, q⟩ := q
    exact wpAny_bind (wpAny_truthy_bool (wpAny_pure ⟨!b, rfl, q⟩))
  unfold tryCompare
  simp only [callSpecialIfBound?, bindSpecialIfBound?]
  have fin : wpAny (model X.prog X.w) A (call (.builtin "object.__ne__") ([.ref a] ++ [v]) >>= fun v => pure (some v)) (fun r s' => ∃ b, r = some (.bool b) ∧ Q (some (.bool b)) s') E' s := wpAny_bind (wpAny_mono body (fun r s' h' => wpAny_pure (by obtain ⟨b, rfl, q⟩ := h'; exact ⟨b, rfl, q⟩)) fun _ _ h' => h')
  refine wpAny_bind (wpAny_mono (Q := fun r s' => ∃ b, r = some (.bool b) ∧ Q (some (.bool b)) s') (wpAny_holding (wpAny_bind (wpAny_bind (wpAny_bind (J.type.here ((PySem.W.looks_findIn X' T.ne).here ?_)))))) (fun r s' q => ?_) fun _ _ x => x)
  · refine wpAny_bind (wpAny_askSetting (wpAny_ite ?_))
    rw [PySem.F.cmp_object.ne.bind]
    split
    · exact wpAny_bind (wpAny_pure (wpAny_pure (by exact fin)))
    · exact wpAny_tryCatch (wpAny_bind (wpAny_pure (wpAny_pure (by exact fin))))
  · obtain ⟨b, rfl, q⟩ := q
    exact wpAny_pure q
theorem op_neO (F : FnOk X.prog X.w X.K X.mg X.base CX n f fd ps sp) (T : OwnQ X.K C f) (hb : L2.Binds X.K fd ps []) (hx : Passes CX X E) (hr : Room (n + 1) X.A) : OpR X (compareOp .NotEq) (fun x y H Q => rEqO X.K C sp E x y H fun v H' => ∃ b, v = .bl b ∧ Q (.bl !b) H') := by
  intro pins s σ H x y u v Q I rx ry h
  obtain ⟨a, dx, fs, rfl, ha, ⟨t, ty, nf⟩, h⟩ := h
  cases rx
  obtain ⟨mA, J, _⟩ := ins_get I.hok ha
  obtain ⟨od, J, _⟩ := J.look
  obtain ⟨P, kx, hP, _⟩ := kit_of I ry ty
  have hty := kx.ty (model X.prog X.w) _ I.kIn hP
  have one : wpAny (model X.prog X.w) X.A (tryCompare (.ref a) (cmpInfo .NotEq).2.1 v) (fun r s' => ∃ w, r = some w ∧ EP X pins σ Q w s') X.xe s := by
    refine try_ne T I ha hr.in1.units0 (wpAny_mono (own_call F hb hx ⟨hr.in1, rfl⟩ (x := .ref a) (u := .ref a) I rfl ry h) (fun r s' q => ?_) fun _ _ x => x)
    obtain ⟨b, H', rfl, I', b', e, q⟩ := q
    cases e
    exact ⟨b, rfl, _, rfl, .bl !b, H', I', rfl, q⟩
  show wpAny (model X.prog X.w) X.A (richCompare .NotEq (.ref a) v) (EP X pins σ Q) X.xe s
  unfold richCompare
  simp only [oneThing_ref]
  refine wpAny_holding (wpAny_bind (wpAny_cRoomFor (hr.mono (by omega) : Room 0 X.A).units0 ?_))
  refine wpAny_bind (J.type.here (wpAny_bind (hty.here ?_)))
  split
  · rename_i q
    have e : PySem.W.subIn X.K t (.ref C) = some false := by
      rcases Bool.or_eq_true_iff.mp nf with e | e
      · rw [beq_iff_eq.mp e] at q; simp at q
      · exact beq_iff_eq.mp e
    refine wpAny_bind ((PySem.W.looks_subIn I.kIn e).here ?_)
    simp only [Bool.false_eq_true, if_false]
    refine wpAny_bind (wpAny_mono one (fun r s' z => ?_) fun _ _ e => e)
    obtain ⟨v, rfl, hq⟩ := z
    exact wpAny_pure hq
  · refine wpAny_bind (wpAny_pure ?_)
    simp only [Bool.false_eq_true, if_false]
    refine wpAny_bind (wpAny_mono one (fun r s' z => ?_) fun _ _ e => e)
    obtain ⟨v, rfl, hq⟩ := z
    exact wpAny_pure hq
end
/-! ### in -/
open PySem.AutoSeq1 (wpAny_loadPart') in
theorem str_decl (b : Str) (u : Tok) (l C dx : Addr) : Meets (Builtin.«str.__eq__» ⟨[.str b u, .ref l], []⟩) (fun _ R s => s.heap.get? l = some (PySem.W.instObj C dx) ∧ R (.ok (.ret .notImplemented)) s) :=
  .of_wp fun prog w A R s h => by obtain ⟨hp, g, d, tk, os⟩ := s; obtain ⟨hl, h⟩ := h; wp_walk using wpAny_loadPart' hl, wpAny_load hl; exact ⟨_, rfl, h⟩
open PySem.AutoSeq1 (wpAny_loadPart') in
theorem tup_decl {prog : Program} {w : World} (a x : Addr) (items : Array Value) (n : Nat) (dd : Option Addr) (sl : Array (Option Value)) : MeetsIn prog w (Builtin.«tuple.__eq__» ⟨[.ref a, .ref x], []⟩) (fun _ R s => s.heap.get? a = some { cls := .type "tuple", dict := dd, data := .seq items n, slots := sl } ∧ PySem.W.Looks (model prog w) s.heap (isInstance (.ref x) (.type "tuple")) false ∧ R (.ok (.ret .notImplemented)) s) :=
  fun A R s h => by
    obtain ⟨hl, hi, h⟩ := h
    obtain ⟨hp, g, d, tk, os⟩ := s
    wp_walk using wpAny_loadPart' hl, PySem.W.Looks.at hi
    exact h
section
variable {X : Cx} {C : Addr} {sp : Sp} {E : XK}
/-- y is a text, a tuple or None: its own == declines an instance -/
inductive Dcl (K : PySem.W.Frag) (H : Hp) : V → Prop where
  | non : Dcl K H .non
  | str (z : Str) : Dcl K H (.str z)
  | tup {p : Addr} {us : List V} (h : H p = some (.tup us)) : Dcl K H (.ref p)
theorem rc_right {A : Around} {s : Shared} {a f : Addr} {v : Value} {Ty id : String} {Q : Value → Shared → Prop} {E' : Value → Shared → Prop} {od : Option Obj} {ox : Obj} (T : OwnQ X.K C f) (KI : X.K.In s.heap) (J : PySem.W.InstAt s.heap a ox C od) (hv : s.TypeIs v Ty) (hT : Ty ∈ sevenT) (sl : Slot Ty "__eq__" id) (hu : A.units < cLine)
    (hc : ∀ Q' : Value → Shared → Prop, Q' .notImplemented s → wpAny (model X.prog X.w) A (call (.builtin id) [v, .ref a]) Q' E' s)
    (h : wpAny (model X.prog X.w) A (call (.ref f) [.ref a, v]) (fun r s' => ∃ b, r = .bool b ∧ Q (.bool b) s') E' s) : wpAny (model X.prog X.w) A (richCompare .Eq v (.ref a)) Q E' s := by
  unfold richCompare
  simp only [hv.oneThing_none]
  refine wpAny_holding (wpAny_bind (wpAny_cRoomFor hu ?_))
  refine wpAny_bind (wpAny_typeOf hv (wpAny_bind (J.type.here ?_)))
  rw [if_pos (show (Value.type Ty != Value.ref C) = true from rfl)]
  refine wpAny_bind ((PySem.W.looks_subIn KI (T.no Ty hT)).here ?_)
  simp only [Bool.false_eq_true, if_false, Bool.not_false, if_true]
  refine wpAny_bind (m := tryCompare v _ (.ref a)) (wpAny_tryCompare_declines hv sl (hc _ ⟨rfl, ?_⟩))
  dsimp only
  refine wpAny_bind (m := tryCompare (.ref a) _ v) ?_
  unfold tryCompare
  refine wpAny_bind (PySem.W.ifBound_K KI J T.eq T.fn (wpAny_mono h (fun r s' q => ?_) fun _ _ x => x))
  obtain ⟨b, rfl, q⟩ := q
  exact wpAny_pure (wpAny_pure q)
theorem eqB_right {CX : CXT} {f : Addr} {fd : FuncData} {ps : List Str} {n : Nat} (F : FnOk X.prog X.w X.K X.mg X.base CX n f fd ps sp) (T : OwnQ X.K C f) (hb : L2.Binds X.K fd ps []) (hx : Passes CX X E) {A : Around} {pins : List (Addr × Obj)} {s : Shared} {σ : L2.St} {H : Hp} {a dx : Addr} {fs : List (Str × V)} {y : V} {v : Value} {Q : Bool → Hp → Prop} (sb : Sub X (n + 1) A) (I : Inv X pins σ H s) (ha : H a = some (.ins C dx fs)) (dy : Dcl X.K H y) (ry : RelV y v) (h : EqS sp E (.ref a) y H Q) :
    wpAny (model X.prog X.w) A (eqBool v (.ref a)) (fun b s' => ∃ H', Inv X pins σ H' s' ∧ Q b H') X.xe s := by
  obtain ⟨mA, J, _⟩ := ins_get I.hok ha
  obtain ⟨od, J, _⟩ := J.look
  have hcall := own_call F hb hx (sb.mono (Nat.le_succ n)) (x := .ref a) (u := .ref a) I rfl ry h
  have hcall' : wpAny (model X.prog X.w) A (call (.ref f) [.ref a, v]) (fun r s' => ∃ b, r = .bool b ∧ wpAny (model X.prog X.w) A (truthOfDropped (.bool b)) (fun b s' => ∃ H', Inv X pins σ H' s' ∧ Q b H') X.xe s') X.xe s := wpAny_mono hcall (fun r s' q => by
    obtain ⟨b, H', e, I', q⟩ := q
    exact ⟨b, e, wpAny_truthy_bool ⟨H', I', q⟩⟩) fun _ _ x => x
  unfold eqBool
  cases dy with
  | non =>
    cases ry
    refine wpAny_holding (wpAny_ite_split (fun hab => absurd (eq_of_beq hab) nofun) fun _ => ?_)
    exact wpAny_bind (rc_right T I.kIn J rfl (by decide) PySem.F.slot_NoneType_eq sb.room.units0 (fun _ hq => call_gives PySem.F.slot_NoneType_eq rfl PySem.F.entry_NoneType_eq (PySem.F.args_NoneType_eq_2 _ _) (SeqAt.NoneType___eq___none_ref_0 a) hq) hcall')
  | str z =>
    obtain ⟨t, rfl⟩ := ry
    refine wpAny_holding (wpAny_ite_split (fun hab => absurd (eq_of_beq hab) nofun) fun _ => ?_)
    exact wpAny_bind (rc_right T I.kIn J (typeIs_str _ _ _) (by decide) PySem.F.slot_str_eq sb.room.units0 (fun _ hq => call_meets PySem.F.slot_str_eq (typeIs_str _ _ _) PySem.F.entry_str_eq (PySem.F.args_str_eq_2 _ _) (str_decl z t a C dx) ⟨J.at_, hq⟩) hcall')
  | @tup p us e =>
    cases ry
    obtain ⟨its, r, ⟨⟨cls, dd, data, sl⟩, e2, hc, n2, hd⟩, z2⟩ := I.tuple (.inl (.inl e))
    simp only at hc hd
    subst hc hd
    refine wpAny_holding (wpAny_ite_split (fun hab => ?_) fun _ => ?_)
    · have z := eq_of_beq hab
      cases z
      rw [e] at ha
      cases ha
    · exact wpAny_bind (rc_right T I.kIn J ⟨_, e2, rfl⟩ (by decide) PySem.F.slot_tuple_eq sb.room.units0 (fun _ hq => call_meetsIn PySem.F.slot_tuple_eq ⟨_, e2, rfl⟩ PySem.F.entry_tuple_eq (PySem.F.args_tuple_eq_2 _ _) (tup_decl p a _ n2 dd sl) ⟨e2, J.type.andThen (PySem.W.looks_subIn I.kIn (T.no "tuple" (by decide))), hq⟩) hcall')
/-- no item's == answers yes -/
def NoneIs (K : PySem.W.Frag) (C : Addr) (sp : Sp) (E : XK) (a : Addr) (H : Hp) (y : V) : Prop := Dcl K H y ∧ EqS sp E (.ref a) y H fun b H' => b = false ∧ H' = H
theorem in_loop {CX : CXT} {f : Addr} {fd : FuncData} {ps : List Str} {n : Nat} (F : FnOk X.prog X.w X.K X.mg X.base CX n f fd ps sp) (T : OwnQ X.K C f) (hb : L2.Binds X.K fd ps []) (hx : Passes CX X E) {A : Around} {pins : List (Addr × Obj)} {σ : L2.St} {H : Hp} {a dx l : Addr} {fs : List (Str × V)} {xs : List V} {R : Result → Shared → Prop}
    (sb : Sub X (n + 2) A) (ha : H a = some (.ins C dx fs)) (hl : H l = some (.lst xs)) (hn : ∀ y ∈ xs, NoneIs X.K C sp E a H y) (hR : ∀ s', Inv X pins σ H s' → R (.ok (.ret (.bool false))) s') (hE : ∀ e s', X.xe e s' → R (.error e) s') (k : Nat) :
    ∀ i : Nat, xs.length - i = k → ∀ s, Inv X pins σ H s → wpAny (model X.prog X.w) A.in1 (Builtin.«list.__contains__.loop» ⟨[.ref l, .ref a, rawInt i], []⟩) (GQ.FinOf X.prog X.w A R) (fun e s' => R (.error e) s') s := by
  induction k with
  | zero =>
    intro i hk s I
    obtain ⟨z, its, m, r, e⟩ := I.hok l _ hl
    have hR' := hR s I
    obtain ⟨hp, g, d, tk, os⟩ := s
    wp_walk using PySem.AutoSeq1.wpAny_loadPart' e
    have hlen := r.length
    have hi : its.toArray[((i : Nat) : Int).toNat]? = none := by simp; omega
    rw [hi]
    wp_walk
    exact hR'
  | succ k ih =>
    intro i hk s I
    obtain ⟨z, its, m, r, e⟩ := I.hok l _ hl
    have hlen := r.length
    have hlt : i < its.length := by omega
    have hlx : i < xs.length := by omega
    obtain ⟨u, hu, ru⟩ := r.get (List.getElem?_eq_getElem hlx)
    have hi : its.toArray[((i : Nat) : Int).toNat]? = some u := by simpa using hu
    obtain ⟨dy, hy⟩ := hn _ (List.getElem_mem hlx)
    have step := eqB_right F T hb hx (A := A.in1) (pins := pins) (s := s) (σ := σ) (v := u) ⟨sb.room.in1, sb.fr⟩ I ha dy ru hy
    obtain ⟨hp, g, d, tk, os⟩ := s
    wp_walk using PySem.AutoSeq1.wpAny_loadPart' e
    rw [hi]
    refine wpAny_bind (wpAny_mono step (fun b s2 q => ?_) fun e' s' x => hE e' s' x)
    obtain ⟨H', I', rfl, rfl⟩ := q
    have hc : ((i : Int) + 1) = ((i + 1 : Nat) : Int) := by omega
    have hrec := ih (i + 1) (by omega) s2 I'
    obtain ⟨hp2, g2, d2, tk2, os2⟩ := s2
    wp_walk
    rw [hc]
    exact ⟨plainId_quiet PySem.MeetsSeq.plain_contains_loop _, codeAny_builtin PySem.MeetsSeq.entry_contains_loop (by
      rw [Around.under_plainId PySem.MeetsSeq.plain_contains_loop _]
      exact hrec)⟩
def rInO (K : PySem.W.Frag) (C : Addr) (sp : Sp) (E : XK) : R2 := fun x y H Q => ∃ a dx fs l xs, x = .ref a ∧ H a = some (.ins C dx fs) ∧ y = .ref l ∧ H l = some (.lst xs) ∧ (∀ y ∈ xs, NoneIs K C sp E a H y) ∧ Q (.bl false) H
theorem op_inO {CX : CXT} {f : Addr} {fd : FuncData} {ps : List Str} {n : Nat} (F : FnOk X.prog X.w X.K X.mg X.base CX n f fd ps sp) (T : OwnQ X.K C f) (hb : L2.Binds X.K fd ps []) (hx : Passes CX X E) (hr : Room (n + 2) X.A) : OpR X (compareOp .In) (rInO X.K C sp E) := by
  intro pins s σ H x y u v Q I rx ry h
  obtain ⟨a, dx, fs, l, xs, rfl, ha, rfl, hl, hn, q⟩ := h
  cases rx
  cases ry
  obtain ⟨z, its, m, r, e⟩ := I.hok l _ hl
  show wpAny (model X.prog X.w) X.A (do return Value.bool (← contains (.ref l) (.ref a))) (EP X pins σ Q) X.xe s
  refine wpAny_bind (wpAny_contains_slot (T := "list") ⟨_, e, rfl⟩ PySem.F.slot_list_contains ?_)
  have hrec := in_loop (R := wants (fun r s' => wpAny (model X.prog X.w) X.A (truthy r) (fun b s' => wpAny (model X.prog X.w) X.A (pure (Value.bool b)) (EP X pins σ Q) X.xe s') X.xe s') X.xe) F T hb hx (A := X.A) ⟨hr, rfl⟩ ha hl hn
    (fun s' I' => wpAny_truthy_bool (wpAny_pure ⟨.bl false, H, I', rfl, q⟩)) (fun e s' x => x) _ 0 rfl s I
  refine GQ.call_here PySem.F.slot_list_contains ⟨_, e, rfl⟩ PySem.F.entry_list_contains (PySem.F.args_list_contains_2 _ _) ?_
  obtain ⟨hp, g, d, tk, os⟩ := s
  wp_walk using PySem.AutoSeq1.wpAny_loadPart' e
  exact ⟨plainId_quiet PySem.MeetsSeq.plain_contains_loop _, codeAny_builtin PySem.MeetsSeq.entry_contains_loop (by
    rw [Around.under_plainId PySem.MeetsSeq.plain_contains_loop _]
    exact hrec)⟩
end
end Us
set_option maxRecDepth 100000
set_option maxHeartbeats 0
namespace K01
open PySem PySem.Spec PyProof.Rows L2
/-! ### the text by places -/
def topS (i : Nat) : Stmt := PySem.Challenge.pw_usecounts_k01_whole_lots_by_own_listing.main.body.getD i (.Pass ⟨0, 0, 0, 0⟩)
abbrev s_is_integer : Stmt := topS 5
abbrev s_leasts_of : Stmt := topS 16
abbrev s_is_sum : Stmt := topS 17
abbrev s_needed_makers : Stmt := topS 18
abbrev s_are_makers : Stmt := topS 19
abbrev s_are_flags : Stmt := topS 20
abbrev s_Lot__init : Stmt := inClass (topS 21) 0
abbrev s_Lot_keep : Stmt := inClass (topS 21) 1
abbrev s_Lot__eq : Stmt := inClass (topS 21) 2
abbrev s_RawLot__init : Stmt := inClass (topS 22) 0
abbrev s_RawLot__eq : Stmt := inClass (topS 22) 1
abbrev s_holds_raw : Stmt := topS 23
abbrev s_holds_there : Stmt := topS 24
abbrev s_holds : Stmt := topS 25
abbrev s_missing : Stmt := topS 26
abbrev s_law_hand : Stmt := topS 28
abbrev s_law_draw : Stmt := topS 29
abbrev s_law_some : Stmt := topS 30
abbrev s_law_shuffled : Stmt := topS 31
abbrev s_law_is : Stmt := topS 32
abbrev s_law_deep : Stmt := topS 33
abbrev s_law_flag : Stmt := topS 34
abbrev s_law_sums : Stmt := topS 35
abbrev s_law_told_numbers : Stmt := topS 36
abbrev s_law_least_makers : Stmt := topS 37
abbrev s_law_lot_spec : Stmt := topS 38
abbrev s_law_lot : Stmt := topS 39
abbrev s_law_due_part : Stmt := topS 40
abbrev s_law_told_part : Stmt := topS 41
abbrev s_law_common_part : Stmt := topS 42
abbrev s_law_due_missing : Stmt := topS 43
abbrev s_law_bent : Stmt := topS 44
abbrev s_law_right : Stmt := topS 45
abbrev s_law : Stmt := topS 46
abbrev n_is_integer : List Str := ["thing"]
abbrev p_is_integer : List Str := ["thing"]
theorem sc_is_integer : FnScope n_is_integer p_is_integer (defScope s_is_integer) := ⟨rfl, rfl, rfl, by decide +kernel, rfl, by decide +kernel, by decide +kernel⟩
abbrev n_leasts_of : List Str := ["makers", "first", "found", "grown", "rest", "maker", "later", "known"]
abbrev p_leasts_of : List Str := ["makers"]
theorem sc_leasts_of : FnScope n_leasts_of p_leasts_of (defScope s_leasts_of) := ⟨rfl, rfl, rfl, by decide +kernel, rfl, by decide +kernel, by decide +kernel⟩
abbrev n_is_sum : List Str := ["leasts", "number", "least"]
abbrev p_is_sum : List Str := ["leasts", "number"]
theorem sc_is_sum : FnScope n_is_sum p_is_sum (defScope s_is_sum) := ⟨rfl, rfl, rfl, by decide +kernel, rfl, by decide +kernel, by decide +kernel⟩
abbrev n_needed_makers : List Str := ["makers", "found", "leasts", "maker"]
abbrev p_needed_makers : List Str := ["makers"]
theorem sc_needed_makers : FnScope n_needed_makers p_needed_makers (defScope s_needed_makers) := ⟨rfl, rfl, rfl, by decide +kernel, rfl, by decide +kernel, by decide +kernel⟩
abbrev n_are_makers : List Str := ["thing", "most", "maker"]
abbrev p_are_makers : List Str := ["thing", "most"]
theorem sc_are_makers : FnScope n_are_makers p_are_makers (defScope s_are_makers) := ⟨rfl, rfl, rfl, by decide +kernel, rfl, by decide +kernel, by decide +kernel⟩
abbrev n_are_flags : List Str := ["thing", "flag"]
abbrev p_are_flags : List Str := ["thing"]
theorem sc_are_flags : FnScope n_are_flags p_are_flags (defScope s_are_flags) := ⟨rfl, rfl, rfl, by decide +kernel, rfl, by decide +kernel, by decide +kernel⟩
abbrev n_Lot__init : List Str := ["self", "word", "makers"]
abbrev p_Lot__init : List Str := ["self", "word", "makers"]
theorem sc_Lot__init : FnScope n_Lot__init p_Lot__init (defScope s_Lot__init) := ⟨rfl, rfl, rfl, by decide +kernel, rfl, by decide +kernel, by decide +kernel⟩
abbrev n_Lot_keep : List Str := ["self", "word", "makers"]
abbrev p_Lot_keep : List Str := ["self", "word", "makers"]
theorem sc_Lot_keep : FnScope n_Lot_keep p_Lot_keep (defScope s_Lot_keep) := ⟨rfl, rfl, rfl, by decide +kernel, rfl, by decide +kernel, by decide +kernel⟩
abbrev n_Lot__eq : List Str := ["self", "other"]
abbrev p_Lot__eq : List Str := ["self", "other"]
theorem sc_Lot__eq : FnScope n_Lot__eq p_Lot__eq (defScope s_Lot__eq) := ⟨rfl, rfl, rfl, by decide +kernel, rfl, by decide +kernel, by decide +kernel⟩
abbrev n_RawLot__init : List Str := ["self", "heads", "rounds"]
abbrev p_RawLot__init : List Str := ["self", "heads", "rounds"]
theorem sc_RawLot__init : FnScope n_RawLot__init p_RawLot__init (defScope s_RawLot__init) := ⟨rfl, rfl, rfl, by decide +kernel, rfl, by decide +kernel, by decide +kernel⟩
abbrev n_RawLot__eq : List Str := ["self", "other", "most", "number"]
abbrev p_RawLot__eq : List Str := ["self", "other"]
theorem sc_RawLot__eq : FnScope n_RawLot__eq p_RawLot__eq (defScope s_RawLot__eq) := ⟨rfl, rfl, rfl, by decide +kernel, rfl, by decide +kernel, by decide +kernel⟩
abbrev n_holds_raw : List Str := ["raw", "number"]
abbrev p_holds_raw : List Str := ["raw", "number"]
theorem sc_holds_raw : FnScope n_holds_raw p_holds_raw (defScope s_holds_raw) := ⟨rfl, rfl, rfl, by decide +kernel, rfl, by decide +kernel, by decide +kernel⟩
abbrev n_holds_there : List Str := ["lot", "number"]
abbrev p_holds_there : List Str := ["lot", "number"]
theorem sc_holds_there : FnScope n_holds_there p_holds_there (defScope s_holds_there) := ⟨rfl, rfl, rfl, by decide +kernel, rfl, by decide +kernel, by decide +kernel⟩
abbrev n_holds : List Str := ["lot", "number"]
abbrev p_holds : List Str := ["lot", "number"]
theorem sc_holds : FnScope n_holds p_holds (defScope s_holds) := ⟨rfl, rfl, rfl, by decide +kernel, rfl, by decide +kernel, by decide +kernel⟩
abbrev n_missing : List Str := ["lot", "number"]
abbrev p_missing : List Str := ["lot"]
theorem sc_missing : FnScope n_missing p_missing (defScope s_missing) := ⟨rfl, rfl, rfl, by decide +kernel, rfl, by decide +kernel, by decide +kernel⟩
abbrev n_law_hand : List Str := ["_law_script", "_law_cells", "_law_cell"]
abbrev p_law_hand : List Str := ["_law_script"]
theorem sc_law_hand : FnScope n_law_hand p_law_hand (defScope s_law_hand) := ⟨rfl, rfl, rfl, by decide +kernel, rfl, by decide +kernel, by decide +kernel⟩
abbrev n_law_draw : List Str := ["_law_hand_here", "_law_many", "_law_cell", "_law_digit", "_law_number"]
abbrev p_law_draw : List Str := ["_law_hand_here", "_law_many"]
theorem sc_law_draw : FnScope n_law_draw p_law_draw (defScope s_law_draw) := ⟨rfl, rfl, rfl, by decide +kernel, rfl, by decide +kernel, by decide +kernel⟩
abbrev n_law_some : List Str := ["_law_hand_here", "_law_things"]
abbrev p_law_some : List Str := ["_law_hand_here", "_law_things"]
theorem sc_law_some : FnScope n_law_some p_law_some (defScope s_law_some) := ⟨rfl, rfl, rfl, by decide +kernel, rfl, by decide +kernel, by decide +kernel⟩
abbrev n_law_shuffled : List Str := ["_law_hand_here", "_law_things", "_law_pool", "_law_found"]
abbrev p_law_shuffled : List Str := ["_law_hand_here", "_law_things"]
theorem sc_law_shuffled : FnScope n_law_shuffled p_law_shuffled (defScope s_law_shuffled) := ⟨rfl, rfl, rfl, by decide +kernel, rfl, by decide +kernel, by decide +kernel⟩
abbrev n_law_is : List Str := ["_law_told", "_law_due", "_law_k", "_law_key"]
abbrev p_law_is : List Str := ["_law_told", "_law_due"]
theorem sc_law_is : FnScope n_law_is p_law_is (defScope s_law_is) := ⟨rfl, rfl, rfl, by decide +kernel, rfl, by decide +kernel, by decide +kernel⟩
abbrev n_law_deep : List Str := ["_law_kind", "_law_found", "_law_turn"]
abbrev p_law_deep : List Str := ["_law_kind"]
theorem sc_law_deep : FnScope n_law_deep p_law_deep (defScope s_law_deep) := ⟨rfl, rfl, rfl, by decide +kernel, rfl, by decide +kernel, by decide +kernel⟩
abbrev n_law_flag : List Str := ["_law_told", "_law_due"]
abbrev p_law_flag : List Str := ["_law_told", "_law_due"]
theorem sc_law_flag : FnScope n_law_flag p_law_flag (defScope s_law_flag) := ⟨rfl, rfl, rfl, by decide +kernel, rfl, by decide +kernel, by decide +kernel⟩
abbrev n_law_sums : List Str := ["_law_makers", "_law_most", "_law_found", "_law_number", "_law_maker"]
abbrev p_law_sums : List Str := ["_law_makers", "_law_most"]
theorem sc_law_sums : FnScope n_law_sums p_law_sums (defScope s_law_sums) := ⟨rfl, rfl, rfl, by decide +kernel, rfl, by decide +kernel, by decide +kernel⟩
abbrev n_law_told_numbers : List Str := ["_law_spec", "_law_most", "_law_word", "_law_first", "_law_second", "_law_rows", "_law_number"]
abbrev p_law_told_numbers : List Str := ["_law_spec", "_law_most"]
theorem sc_law_told_numbers : FnScope n_law_told_numbers p_law_told_numbers (defScope s_law_told_numbers) := ⟨rfl, rfl, rfl, by decide +kernel, rfl, by decide +kernel, by decide +kernel⟩
abbrev n_law_least_makers : List Str := ["_law_flags", "_law_found", "_law_sums_here", "_law_number", "_law_told", "_law_maker"]
abbrev p_law_least_makers : List Str := ["_law_flags"]
theorem sc_law_least_makers : FnScope n_law_least_makers p_law_least_makers (defScope s_law_least_makers) := ⟨rfl, rfl, rfl, by decide +kernel, rfl, by decide +kernel, by decide +kernel⟩
abbrev n_law_lot_spec : List Str := ["_law_hand_here", "_law_word", "_law_turn"]
abbrev p_law_lot_spec : List Str := ["_law_hand_here"]
theorem sc_law_lot_spec : FnScope n_law_lot_spec p_law_lot_spec (defScope s_law_lot_spec) := ⟨rfl, rfl, rfl, by decide +kernel, rfl, by decide +kernel, by decide +kernel⟩
abbrev n_law_lot : List Str := ["_law_spec"]
abbrev p_law_lot : List Str := ["_law_spec"]
theorem sc_law_lot : FnScope n_law_lot p_law_lot (defScope s_law_lot) := ⟨rfl, rfl, rfl, by decide +kernel, rfl, by decide +kernel, by decide +kernel⟩
abbrev n_law_due_part : List Str := ["_law_word", "_law_makers", "_law_maker"]
abbrev p_law_due_part : List Str := ["_law_word", "_law_makers"]
theorem sc_law_due_part : FnScope n_law_due_part p_law_due_part (defScope s_law_due_part) := ⟨rfl, rfl, rfl, by decide +kernel, rfl, by decide +kernel, by decide +kernel⟩
abbrev n_law_told_part : List Str := ["_law_word", "_law_makers", "_law_found", "e"]
abbrev p_law_told_part : List Str := ["_law_word", "_law_makers"]
theorem sc_law_told_part : FnScope n_law_told_part p_law_told_part (defScope s_law_told_part) := ⟨rfl, rfl, rfl, by decide +kernel, rfl, by decide +kernel, by decide +kernel⟩
abbrev n_law_common_part : List Str := ["_law_makers", "_law_number", "_law_maker"]
abbrev p_law_common_part : List Str := ["_law_makers"]
theorem sc_law_common_part : FnScope n_law_common_part p_law_common_part (defScope s_law_common_part) := ⟨rfl, rfl, rfl, by decide +kernel, rfl, by decide +kernel, by decide +kernel⟩
abbrev n_law_due_missing : List Str := ["_law_spec", "_law_flags", "_law_number"]
abbrev p_law_due_missing : List Str := ["_law_spec"]
theorem sc_law_due_missing : FnScope n_law_due_missing p_law_due_missing (defScope s_law_due_missing) := ⟨rfl, rfl, rfl, by decide +kernel, rfl, by decide +kernel, by decide +kernel⟩
abbrev n_law_bent : List Str := ["_law_hand_here", "_law_spec", "_law_odd", "_law_word", "_law_makers", "_law_way"]
abbrev p_law_bent : List Str := ["_law_hand_here", "_law_spec"]
theorem sc_law_bent : FnScope n_law_bent p_law_bent (defScope s_law_bent) := ⟨rfl, rfl, rfl, by decide +kernel, rfl, by decide +kernel, by decide +kernel⟩
abbrev n_law_right : List Str := ["_law_hand_here", "_law_spec", "_law_lot_here", "_law_flags", "_law_due", "_law_number"]
abbrev p_law_right : List Str := ["_law_hand_here", "_law_spec"]
theorem sc_law_right : FnScope n_law_right p_law_right (defScope s_law_right) := ⟨rfl, rfl, rfl, by decide +kernel, rfl, by decide +kernel, by decide +kernel⟩
abbrev n_law : List Str := ["_law_script", "_law_hand_here", "_law_one", "_law_other", "_law_due", "_law_number", "_law_whole", "_law_turn", "_law_word", "_law_makers"]
abbrev p_law : List Str := ["_law_script"]
theorem sc_law : FnScope n_law p_law (defScope s_law) := ⟨rfl, rfl, rfl, by decide +kernel, rfl, by decide +kernel, by decide +kernel⟩

def d_is_integer : He.DefD := ⟨("is_integer", none), "is_integer", "is_integer", defArgs s_is_integer, defBody s_is_integer, defScope s_is_integer, [], []⟩
def d_leasts_of : He.DefD := ⟨("leasts_of", none), "leasts_of", "leasts_of", defArgs s_leasts_of, defBody s_leasts_of, defScope s_leasts_of, [], []⟩
def d_is_sum : He.DefD := ⟨("is_sum", none), "is_sum", "is_sum", defArgs s_is_sum, defBody s_is_sum, defScope s_is_sum, [], []⟩
def d_needed_makers : He.DefD := ⟨("needed_makers", none), "needed_makers", "needed_makers", defArgs s_needed_makers, defBody s_needed_makers, defScope s_needed_makers, [], []⟩
def d_are_makers : He.DefD := ⟨("are_makers", none), "are_makers", "are_makers", defArgs s_are_makers, defBody s_are_makers, defScope s_are_makers, [], []⟩
def d_are_flags : He.DefD := ⟨("are_flags", none), "are_flags", "are_flags", defArgs s_are_flags, defBody s_are_flags, defScope s_are_flags, [], []⟩
def d_Lot__init : He.DefD := ⟨("Lot", some "__init__"), "__init__", "Lot.__init__", defArgs s_Lot__init, defBody s_Lot__init, defScope s_Lot__init, [], []⟩
def d_Lot_keep : He.DefD := ⟨("Lot", some "keep"), "keep", "Lot.keep", defArgs s_Lot_keep, defBody s_Lot_keep, defScope s_Lot_keep, [], []⟩
def d_Lot__eq : He.DefD := ⟨("Lot", some "__eq__"), "__eq__", "Lot.__eq__", defArgs s_Lot__eq, defBody s_Lot__eq, defScope s_Lot__eq, [], []⟩
def d_RawLot__init : He.DefD := ⟨("RawLot", some "__init__"), "__init__", "RawLot.__init__", defArgs s_RawLot__init, defBody s_RawLot__init, defScope s_RawLot__init, [], []⟩
def d_RawLot__eq : He.DefD := ⟨("RawLot", some "__eq__"), "__eq__", "RawLot.__eq__", defArgs s_RawLot__eq, defBody s_RawLot__eq, defScope s_RawLot__eq, [], []⟩
def d_holds_raw : He.DefD := ⟨("holds_raw", none), "holds_raw", "holds_raw", defArgs s_holds_raw, defBody s_holds_raw, defScope s_holds_raw, [], []⟩
def d_holds_there : He.DefD := ⟨("holds_there", none), "holds_there", "holds_there", defArgs s_holds_there, defBody s_holds_there, defScope s_holds_there, [], []⟩
def d_holds : He.DefD := ⟨("holds", none), "holds", "holds", defArgs s_holds, defBody s_holds, defScope s_holds, [], []⟩
def d_missing : He.DefD := ⟨("missing", none), "missing", "missing", defArgs s_missing, defBody s_missing, defScope s_missing, [], []⟩
def d_law_hand : He.DefD := ⟨("_law_hand", none), "_law_hand", "_law_hand", defArgs s_law_hand, defBody s_law_hand, defScope s_law_hand, [], []⟩
def d_law_draw : He.DefD := ⟨("_law_draw", none), "_law_draw", "_law_draw", defArgs s_law_draw, defBody s_law_draw, defScope s_law_draw, [], []⟩
def d_law_some : He.DefD := ⟨("_law_some", none), "_law_some", "_law_some", defArgs s_law_some, defBody s_law_some, defScope s_law_some, [], []⟩
def d_law_shuffled : He.DefD := ⟨("_law_shuffled", none), "_law_shuffled", "_law_shuffled", defArgs s_law_shuffled, defBody s_law_shuffled, defScope s_law_shuffled, [], []⟩
def d_law_is : He.DefD := ⟨("_law_is", none), "_law_is", "_law_is", defArgs s_law_is, defBody s_law_is, defScope s_law_is, [], []⟩
def d_law_deep : He.DefD := ⟨("_law_deep", none), "_law_deep", "_law_deep", defArgs s_law_deep, defBody s_law_deep, defScope s_law_deep, [], []⟩
def d_law_flag : He.DefD := ⟨("_law_flag", none), "_law_flag", "_law_flag", defArgs s_law_flag, defBody s_law_flag, defScope s_law_flag, [], []⟩
def d_law_sums : He.DefD := ⟨("_law_sums", none), "_law_sums", "_law_sums", defArgs s_law_sums, defBody s_law_sums, defScope s_law_sums, [], []⟩
def d_law_told_numbers : He.DefD := ⟨("_law_told_numbers", none), "_law_told_numbers", "_law_told_numbers", defArgs s_law_told_numbers, defBody s_law_told_numbers, defScope s_law_told_numbers, [], []⟩
def d_law_least_makers : He.DefD := ⟨("_law_least_makers", none), "_law_least_makers", "_law_least_makers", defArgs s_law_least_makers, defBody s_law_least_makers, defScope s_law_least_makers, [], []⟩
def d_law_lot_spec : He.DefD := ⟨("_law_lot_spec", none), "_law_lot_spec", "_law_lot_spec", defArgs s_law_lot_spec, defBody s_law_lot_spec, defScope s_law_lot_spec, [], []⟩
def d_law_lot : He.DefD := ⟨("_law_lot", none), "_law_lot", "_law_lot", defArgs s_law_lot, defBody s_law_lot, defScope s_law_lot, [], []⟩
def d_law_due_part : He.DefD := ⟨("_law_due_part", none), "_law_due_part", "_law_due_part", defArgs s_law_due_part, defBody s_law_due_part, defScope s_law_due_part, [], []⟩
def d_law_told_part : He.DefD := ⟨("_law_told_part", none), "_law_told_part", "_law_told_part", defArgs s_law_told_part, defBody s_law_told_part, defScope s_law_told_part, [], []⟩
def d_law_common_part : He.DefD := ⟨("_law_common_part", none), "_law_common_part", "_law_common_part", defArgs s_law_common_part, defBody s_law_common_part, defScope s_law_common_part, [], []⟩
def d_law_due_missing : He.DefD := ⟨("_law_due_missing", none), "_law_due_missing", "_law_due_missing", defArgs s_law_due_missing, defBody s_law_due_missing, defScope s_law_due_missing, [], []⟩
def d_law_bent : He.DefD := ⟨("_law_bent", none), "_law_bent", "_law_bent", defArgs s_law_bent, defBody s_law_bent, defScope s_law_bent, [], []⟩
def d_law_right : He.DefD := ⟨("_law_right", none), "_law_right", "_law_right", defArgs s_law_right, defBody s_law_right, defScope s_law_right, [], []⟩
def d_law : He.DefD := ⟨("law", none), "law", "law", defArgs s_law, defBody s_law, defScope s_law, [], []⟩
def fn : List He.DefD := [d_is_integer, d_leasts_of, d_is_sum, d_needed_makers, d_are_makers, d_are_flags, d_Lot__init, d_Lot_keep, d_Lot__eq, d_RawLot__init, d_RawLot__eq, d_holds_raw, d_holds_there, d_holds, d_missing, d_law_hand, d_law_draw, d_law_some, d_law_shuffled, d_law_is, d_law_deep, d_law_flag, d_law_sums, d_law_told_numbers, d_law_least_makers, d_law_lot_spec, d_law_lot, d_law_due_part, d_law_told_part, d_law_common_part, d_law_due_missing, d_law_bent, d_law_right, d_law]
def fa : List He.Fa := [.glo "is_integer", .glo "leasts_of", .glo "is_sum", .glo "needed_makers", .glo "are_makers", .glo "are_flags", .glo "holds_raw", .glo "holds_there", .glo "holds", .glo "missing", .glo "_law_hand", .glo "_law_draw", .glo "_law_some", .glo "_law_shuffled", .glo "_law_is", .glo "_law_deep", .glo "_law_flag", .glo "_law_sums", .glo "_law_told_numbers", .glo "_law_least_makers", .glo "_law_lot_spec", .glo "_law_lot", .glo "_law_due_part", .glo "_law_told_part", .glo "_law_common_part", .glo "_law_due_missing", .glo "_law_bent", .glo "_law_right", .glo "law", .glo "CountsError", .glo "BadLot", .glo "NoNumber", .glo "Lot", .glo "RawLot", .free "ValueError", .free "sorted", .free "tuple", .free "isinstance", .free "list", .free "dict", .free "range", .free "max", .free "int", .free "set", .free "all", .free "len", .free "abs", .free "bool", .free "any", .free "str", .free "super", .str "ONCE" "once", .str "LOAN" "loan", .str "FREE" "free", .str "MORE" "more", .int "MOST_MAKERS" 4, .int "MOST_MAKER" 12, .int "MOST_HEADS" 8, .int "MOST_ROUNDS" 6, .int "MOST_HELD" 10000, .cls "Lot", .mkr "Lot", .meth "Lot" "keep", .noat "Lot" "word", .noat "Lot" "makers", .noat "Lot" "leasts", .exm "BadLot" "CountsError" true, .cls "RawLot"]

abbrev R : PySem.W.OpenRow := PySem.W.OpenLaw.row PySem.Challenge.rw_usecounts_k01_whole_lots_by_own_listing
def posOf : Stmt → Stmt → List Pos
  | .Expr (.Call (.Attribute (.Call (.Name _ q0) _ _ q1) _ q2) [.Name _ q3] _ q4) q5, .Assign [.Attribute (.Name _ q6) _ q7] (.Name _ q8) q9 => [q0, q1, q2, q3, q4, q5, q6, q7, q8, q9]
  | _, _ => []
def nthS : List Stmt → Nat → Stmt
  | s :: _, 0 => s
  | _ :: r, n + 1 => nthS r n
  | [], _ => .Pass ⟨0, 0, 0, 0⟩

def sup_BadLot : Us.SupT := ⟨"BadLot", "__init__", "BadLot.__init__", defArgs (inClass (topS 2) 0), "part", "part", posOf (nthS (defBody (inClass (topS 2) 0)) 0) (nthS (defBody (inClass (topS 2) 0)) 1), defScope (inClass (topS 2) 0)⟩
theorem supT_BadLot : sup_BadLot.Ok R.prog := ⟨rfl, fun _ _ _ _ _ _ _ _ _ => rfl, ⟨_, rfl, rfl⟩, by decide +kernel, by decide +kernel, by decide +kernel, by decide +kernel, by decide +kernel, by decide +kernel, by decide +kernel, rfl, rfl, rfl, by decide +kernel⟩
def ss : List Us.SupT := [sup_BadLot]
def ex (K : PySem.W.Frag) : Bool := (Us.supB sup_BadLot R.prog.main.file K && ([Us.ownCB K (He.ga K "Lot"), Us.ownQB K (He.ga K "Lot") (He.ma K (He.ga K "Lot") "__eq__"), Us.excCB K (He.ga K "BadLot"), decide (PySem.W.kitOne K (.ref (He.ga K "Lot")) (.ref (He.ga K "Lot")) = some true), decide (PySem.W.kitOne K (.ref (He.ga K "Lot")) (.ref (He.ga K "RawLot")) = some false), decide (PySem.W.kitOne K (.ref (He.ga K "BadLot")) (.ref (He.ga K "BadLot")) = some true), decide (PySem.W.kitOne K (.type "str") (.ref (He.ga K "Lot")) = some false), decide (PySem.W.kitOne K (.type "tuple") (.ref (He.ga K "Lot")) = some false), decide (PySem.W.kitOne K (.type "list") (.ref (He.ga K "Lot")) = some false), decide (PySem.W.kitOne K (.type "NoneType") (.ref (He.ga K "Lot")) = some false), decide (PySem.W.kitOne K (.type "int") (.ref (He.ga K "Lot")) = some false), decide (PySem.W.kitOne K (.type "bool") (.ref (He.ga K "Lot")) = some false), decide (PySem.W.kitOne K (.type "dict") (.ref (He.ga K "Lot")) = some false)] : List Bool).all id)
abbrev hk : PySem.W.Hook := Us.hookY 6 fa fn ss ex
def ob (s : PySem.W.SharedT) : Us.AlY := Us.obsYG 6 fa fn ss ex (HandSHeadRun.getT s)
theorem ob_eq (s : PySem.W.SharedT) : ob s = hk.obs s.abs := Us.obsYG_eq (HandSHeadRun.getT_eq s)
def loose : List Str := (["CountsError", "BadLot", "NoNumber", "is_integer", "ONCE", "LOAN", "FREE", "MORE", "MOST_MAKERS", "MOST_MAKER", "MOST_HEADS", "MOST_ROUNDS", "MOST_HELD", "leasts_of", "is_sum", "needed_makers", "are_makers", "are_flags", "Lot", "RawLot", "holds_raw", "holds_there", "holds", "missing", "_law_hand", "_law_draw", "_law_some", "_law_shuffled", "_law_is", "_law_deep"] : List Str) ++ (["_law_flag", "_law_sums", "_law_told_numbers", "_law_least_makers", "_law_lot_spec", "_law_lot", "_law_due_part", "_law_told_part", "_law_common_part", "_law_due_missing", "_law_bent", "_law_right"] : List Str)
theorem run (w : World) : HandSHeadRun.RunEq R (PySem.W.view R.prog [46]) hk ob 4000 loose w := by
  intro os
  kernel_rfl
structure Txt (K : PySem.W.Frag) (mg : Str → Option Value) : Prop where
  d_is_integer : Us.DefAt K mg "is_integer" s_is_integer
  d_leasts_of : Us.DefAt K mg "leasts_of" s_leasts_of
  d_is_sum : Us.DefAt K mg "is_sum" s_is_sum
  d_needed_makers : Us.DefAt K mg "needed_makers" s_needed_makers
  d_are_makers : Us.DefAt K mg "are_makers" s_are_makers
  d_are_flags : Us.DefAt K mg "are_flags" s_are_flags
  d_Lot__init : ∃ fd, FunD K "__init__" "Lot.__init__" (defArgs s_Lot__init) (defBody s_Lot__init) (defScope s_Lot__init) [] [] (He.ma K (He.ga K "Lot") "__init__") fd
  d_Lot_keep : ∃ fd, FunD K "keep" "Lot.keep" (defArgs s_Lot_keep) (defBody s_Lot_keep) (defScope s_Lot_keep) [] [] (He.ma K (He.ga K "Lot") "keep") fd
  d_Lot__eq : ∃ fd, FunD K "__eq__" "Lot.__eq__" (defArgs s_Lot__eq) (defBody s_Lot__eq) (defScope s_Lot__eq) [] [] (He.ma K (He.ga K "Lot") "__eq__") fd
  d_RawLot__init : ∃ fd, FunD K "__init__" "RawLot.__init__" (defArgs s_RawLot__init) (defBody s_RawLot__init) (defScope s_RawLot__init) [] [] (He.ma K (He.ga K "RawLot") "__init__") fd
  d_RawLot__eq : ∃ fd, FunD K "__eq__" "RawLot.__eq__" (defArgs s_RawLot__eq) (defBody s_RawLot__eq) (defScope s_RawLot__eq) [] [] (He.ma K (He.ga K "RawLot") "__eq__") fd
  d_holds_raw : Us.DefAt K mg "holds_raw" s_holds_raw
  d_holds_there : Us.DefAt K mg "holds_there" s_holds_there
  d_holds : Us.DefAt K mg "holds" s_holds
  d_missing : Us.DefAt K mg "missing" s_missing
  d_law_hand : Us.DefAt K mg "_law_hand" s_law_hand
  d_law_draw : Us.DefAt K mg "_law_draw" s_law_draw
  d_law_some : Us.DefAt K mg "_law_some" s_law_some
  d_law_shuffled : Us.DefAt K mg "_law_shuffled" s_law_shuffled
  d_law_is : Us.DefAt K mg "_law_is" s_law_is
  d_law_deep : Us.DefAt K mg "_law_deep" s_law_deep
  d_law_flag : Us.DefAt K mg "_law_flag" s_law_flag
  d_law_sums : Us.DefAt K mg "_law_sums" s_law_sums
  d_law_told_numbers : Us.DefAt K mg "_law_told_numbers" s_law_told_numbers
  d_law_least_makers : Us.DefAt K mg "_law_least_makers" s_law_least_makers
  d_law_lot_spec : Us.DefAt K mg "_law_lot_spec" s_law_lot_spec
  d_law_lot : Us.DefAt K mg "_law_lot" s_law_lot
  d_law_due_part : Us.DefAt K mg "_law_due_part" s_law_due_part
  d_law_told_part : Us.DefAt K mg "_law_told_part" s_law_told_part
  d_law_common_part : Us.DefAt K mg "_law_common_part" s_law_common_part
  d_law_due_missing : Us.DefAt K mg "_law_due_missing" s_law_due_missing
  d_law_bent : Us.DefAt K mg "_law_bent" s_law_bent
  d_law_right : Us.DefAt K mg "_law_right" s_law_right
  d_law : Us.DefAt K mg "law" s_law
  g_CountsError : mg "CountsError" = some (.ref (He.ga K "CountsError"))
  g_BadLot : mg "BadLot" = some (.ref (He.ga K "BadLot"))
  g_NoNumber : mg "NoNumber" = some (.ref (He.ga K "NoNumber"))
  g_Lot : mg "Lot" = some (.ref (He.ga K "Lot"))
  g_RawLot : mg "RawLot" = some (.ref (He.ga K "RawLot"))
  f_ValueError : mg "ValueError" = none
  f_sorted : mg "sorted" = none
  f_tuple : mg "tuple" = none
  f_isinstance : mg "isinstance" = none
  f_list : mg "list" = none
  f_dict : mg "dict" = none
  f_range : mg "range" = none
  f_max : mg "max" = none
  f_int : mg "int" = none
  f_set : mg "set" = none
  f_all : mg "all" = none
  f_len : mg "len" = none
  f_abs : mg "abs" = none
  f_bool : mg "bool" = none
  f_any : mg "any" = none
  f_str : mg "str" = none
  f_super : mg "super" = none
  c_ONCE : Us.GlobV mg "ONCE" (.str "once")
  c_LOAN : Us.GlobV mg "LOAN" (.str "loan")
  c_FREE : Us.GlobV mg "FREE" (.str "free")
  c_MORE : Us.GlobV mg "MORE" (.str "more")
  c_MOST_MAKERS : Us.GlobV mg "MOST_MAKERS" (.int 4)
  c_MOST_MAKER : Us.GlobV mg "MOST_MAKER" (.int 12)
  c_MOST_HEADS : Us.GlobV mg "MOST_HEADS" (.int 8)
  c_MOST_ROUNDS : Us.GlobV mg "MOST_ROUNDS" (.int 6)
  c_MOST_HELD : Us.GlobV mg "MOST_HELD" (.int 10000)
  su_BadLot : Us.SupOk R.prog K sup_BadLot
  x_Lot : Cls K (He.ga K "Lot")
  mk_Lot : Mk K (He.ga K "Lot") (He.ma K (He.ga K "Lot") "__init__")
  me_keep : Meth K (He.ga K "Lot") "keep" (He.ma K (He.ga K "Lot") "keep")
  na_word : NoAttr K (He.ga K "Lot") "word"
  na_makers : NoAttr K (He.ga K "Lot") "makers"
  na_leasts : NoAttr K (He.ga K "Lot") "leasts"
  exm : PySem.W.exmOne K (.ref (He.ga K "BadLot")) (.ref (He.ga K "CountsError")) = some true
  ow_Lot : Us.OwnC K (He.ga K "Lot")
  oq_Lot : Us.OwnQ K (He.ga K "Lot") (He.ma K (He.ga K "Lot") "__eq__")
  c_BadLot : ExcC K (He.ga K "BadLot")
  k_LL : PySem.W.kitOne K (.ref (He.ga K "Lot")) (.ref (He.ga K "Lot")) = some true
  k_LR : PySem.W.kitOne K (.ref (He.ga K "Lot")) (.ref (He.ga K "RawLot")) = some false
  k_BB : PySem.W.kitOne K (.ref (He.ga K "BadLot")) (.ref (He.ga K "BadLot")) = some true
  k_strL : PySem.W.kitOne K (.type "str") (.ref (He.ga K "Lot")) = some false
  k_tupleL : PySem.W.kitOne K (.type "tuple") (.ref (He.ga K "Lot")) = some false
  k_listL : PySem.W.kitOne K (.type "list") (.ref (He.ga K "Lot")) = some false
  k_NoneTypeL : PySem.W.kitOne K (.type "NoneType") (.ref (He.ga K "Lot")) = some false
  k_intL : PySem.W.kitOne K (.type "int") (.ref (He.ga K "Lot")) = some false
  k_boolL : PySem.W.kitOne K (.type "bool") (.ref (He.ga K "Lot")) = some false
  k_dictL : PySem.W.kitOne K (.type "dict") (.ref (He.ga K "Lot")) = some false
theorem txt_mk {K : PySem.W.Frag} {h : Heap} {mg : Str → Option Value} (X : K.In h) (G : h.Ns mainGlobals mg) (c : He.SaysD fa fn K) (ce0 : ex K = true) (cs : Us.SaysS ss K) : Txt K mg := by
  obtain ⟨SB0, ce⟩ := He.ba ce0
  exact ⟨let ⟨fd, F⟩ := c.def_ 0 (d := d_is_integer) rfl; ⟨_, fd, F, He.glo_ok X G (c.fact 0 (f := .glo "is_integer") rfl)⟩,
   let ⟨fd, F⟩ := c.def_ 1 (d := d_leasts_of) rfl; ⟨_, fd, F, He.glo_ok X G (c.fact 1 (f := .glo "leasts_of") rfl)⟩,
   let ⟨fd, F⟩ := c.def_ 2 (d := d_is_sum) rfl; ⟨_, fd, F, He.glo_ok X G (c.fact 2 (f := .glo "is_sum") rfl)⟩,
   let ⟨fd, F⟩ := c.def_ 3 (d := d_needed_makers) rfl; ⟨_, fd, F, He.glo_ok X G (c.fact 3 (f := .glo "needed_makers") rfl)⟩,
   let ⟨fd, F⟩ := c.def_ 4 (d := d_are_makers) rfl; ⟨_, fd, F, He.glo_ok X G (c.fact 4 (f := .glo "are_makers") rfl)⟩,
   let ⟨fd, F⟩ := c.def_ 5 (d := d_are_flags) rfl; ⟨_, fd, F, He.glo_ok X G (c.fact 5 (f := .glo "are_flags") rfl)⟩,
   c.def_ 6 (d := d_Lot__init) rfl,
   c.def_ 7 (d := d_Lot_keep) rfl,
   c.def_ 8 (d := d_Lot__eq) rfl,
   c.def_ 9 (d := d_RawLot__init) rfl,
   c.def_ 10 (d := d_RawLot__eq) rfl,
   let ⟨fd, F⟩ := c.def_ 11 (d := d_holds_raw) rfl; ⟨_, fd, F, He.glo_ok X G (c.fact 6 (f := .glo "holds_raw") rfl)⟩,
   let ⟨fd, F⟩ := c.def_ 12 (d := d_holds_there) rfl; ⟨_, fd, F, He.glo_ok X G (c.fact 7 (f := .glo "holds_there") rfl)⟩,
   let ⟨fd, F⟩ := c.def_ 13 (d := d_holds) rfl; ⟨_, fd, F, He.glo_ok X G (c.fact 8 (f := .glo "holds") rfl)⟩,
   let ⟨fd, F⟩ := c.def_ 14 (d := d_missing) rfl; ⟨_, fd, F, He.glo_ok X G (c.fact 9 (f := .glo "missing") rfl)⟩,
   let ⟨fd, F⟩ := c.def_ 15 (d := d_law_hand) rfl; ⟨_, fd, F, He.glo_ok X G (c.fact 10 (f := .glo "_law_hand") rfl)⟩,
   let ⟨fd, F⟩ := c.def_ 16 (d := d_law_draw) rfl; ⟨_, fd, F, He.glo_ok X G (c.fact 11 (f := .glo "_law_draw") rfl)⟩,
   let ⟨fd, F⟩ := c.def_ 17 (d := d_law_some) rfl; ⟨_, fd, F, He.glo_ok X G (c.fact 12 (f := .glo "_law_some") rfl)⟩,
   let ⟨fd, F⟩ := c.def_ 18 (d := d_law_shuffled) rfl; ⟨_, fd, F, He.glo_ok X G (c.fact 13 (f := .glo "_law_shuffled") rfl)⟩,
   let ⟨fd, F⟩ := c.def_ 19 (d := d_law_is) rfl; ⟨_, fd, F, He.glo_ok X G (c.fact 14 (f := .glo "_law_is") rfl)⟩,
   let ⟨fd, F⟩ := c.def_ 20 (d := d_law_deep) rfl; ⟨_, fd, F, He.glo_ok X G (c.fact 15 (f := .glo "_law_deep") rfl)⟩,
   let ⟨fd, F⟩ := c.def_ 21 (d := d_law_flag) rfl; ⟨_, fd, F, He.glo_ok X G (c.fact 16 (f := .glo "_law_flag") rfl)⟩,
   let ⟨fd, F⟩ := c.def_ 22 (d := d_law_sums) rfl; ⟨_, fd, F, He.glo_ok X G (c.fact 17 (f := .glo "_law_sums") rfl)⟩,
   let ⟨fd, F⟩ := c.def_ 23 (d := d_law_told_numbers) rfl; ⟨_, fd, F, He.glo_ok X G (c.fact 18 (f := .glo "_law_told_numbers") rfl)⟩,
   let ⟨fd, F⟩ := c.def_ 24 (d := d_law_least_makers) rfl; ⟨_, fd, F, He.glo_ok X G (c.fact 19 (f := .glo "_law_least_makers") rfl)⟩,
   let ⟨fd, F⟩ := c.def_ 25 (d := d_law_lot_spec) rfl; ⟨_, fd, F, He.glo_ok X G (c.fact 20 (f := .glo "_law_lot_spec") rfl)⟩,
   let ⟨fd, F⟩ := c.def_ 26 (d := d_law_lot) rfl; ⟨_, fd, F, He.glo_ok X G (c.fact 21 (f := .glo "_law_lot") rfl)⟩,
   let ⟨fd, F⟩ := c.def_ 27 (d := d_law_due_part) rfl; ⟨_, fd, F, He.glo_ok X G (c.fact 22 (f := .glo "_law_due_part") rfl)⟩,
   let ⟨fd, F⟩ := c.def_ 28 (d := d_law_told_part) rfl; ⟨_, fd, F, He.glo_ok X G (c.fact 23 (f := .glo "_law_told_part") rfl)⟩,
   let ⟨fd, F⟩ := c.def_ 29 (d := d_law_common_part) rfl; ⟨_, fd, F, He.glo_ok X G (c.fact 24 (f := .glo "_law_common_part") rfl)⟩,
   let ⟨fd, F⟩ := c.def_ 30 (d := d_law_due_missing) rfl; ⟨_, fd, F, He.glo_ok X G (c.fact 25 (f := .glo "_law_due_missing") rfl)⟩,
   let ⟨fd, F⟩ := c.def_ 31 (d := d_law_bent) rfl; ⟨_, fd, F, He.glo_ok X G (c.fact 26 (f := .glo "_law_bent") rfl)⟩,
   let ⟨fd, F⟩ := c.def_ 32 (d := d_law_right) rfl; ⟨_, fd, F, He.glo_ok X G (c.fact 27 (f := .glo "_law_right") rfl)⟩,
   let ⟨fd, F⟩ := c.def_ 33 (d := d_law) rfl; ⟨_, fd, F, He.glo_ok X G (c.fact 28 (f := .glo "law") rfl)⟩,
   He.glo_ok X G (c.fact 29 (f := .glo "CountsError") rfl),
   He.glo_ok X G (c.fact 30 (f := .glo "BadLot") rfl),
   He.glo_ok X G (c.fact 31 (f := .glo "NoNumber") rfl),
   He.glo_ok X G (c.fact 32 (f := .glo "Lot") rfl),
   He.glo_ok X G (c.fact 33 (f := .glo "RawLot") rfl),
   He.free_ok X G (c.fact 34 (f := .free "ValueError") rfl),
   He.free_ok X G (c.fact 35 (f := .free "sorted") rfl),
   He.free_ok X G (c.fact 36 (f := .free "tuple") rfl),
   He.free_ok X G (c.fact 37 (f := .free "isinstance") rfl),
   He.free_ok X G (c.fact 38 (f := .free "list") rfl),
   He.free_ok X G (c.fact 39 (f := .free "dict") rfl),
   He.free_ok X G (c.fact 40 (f := .free "range") rfl),
   He.free_ok X G (c.fact 41 (f := .free "max") rfl),
   He.free_ok X G (c.fact 42 (f := .free "int") rfl),
   He.free_ok X G (c.fact 43 (f := .free "set") rfl),
   He.free_ok X G (c.fact 44 (f := .free "all") rfl),
   He.free_ok X G (c.fact 45 (f := .free "len") rfl),
   He.free_ok X G (c.fact 46 (f := .free "abs") rfl),
   He.free_ok X G (c.fact 47 (f := .free "bool") rfl),
   He.free_ok X G (c.fact 48 (f := .free "any") rfl),
   He.free_ok X G (c.fact 49 (f := .free "str") rfl),
   He.free_ok X G (c.fact 50 (f := .free "super") rfl),
   let ⟨t, e⟩ := He.str_ok X G (c.fact 51 (f := .str "ONCE" "once") rfl); ⟨_, e, t, rfl⟩,
   let ⟨t, e⟩ := He.str_ok X G (c.fact 52 (f := .str "LOAN" "loan") rfl); ⟨_, e, t, rfl⟩,
   let ⟨t, e⟩ := He.str_ok X G (c.fact 53 (f := .str "FREE" "free") rfl); ⟨_, e, t, rfl⟩,
   let ⟨t, e⟩ := He.str_ok X G (c.fact 54 (f := .str "MORE" "more") rfl); ⟨_, e, t, rfl⟩,
   let ⟨t, e⟩ := He.int_ok X G (c.fact 55 (f := .int "MOST_MAKERS" 4) rfl); ⟨_, e, t, rfl⟩,
   let ⟨t, e⟩ := He.int_ok X G (c.fact 56 (f := .int "MOST_MAKER" 12) rfl); ⟨_, e, t, rfl⟩,
   let ⟨t, e⟩ := He.int_ok X G (c.fact 57 (f := .int "MOST_HEADS" 8) rfl); ⟨_, e, t, rfl⟩,
   let ⟨t, e⟩ := He.int_ok X G (c.fact 58 (f := .int "MOST_ROUNDS" 6) rfl); ⟨_, e, t, rfl⟩,
   let ⟨t, e⟩ := He.int_ok X G (c.fact 59 (f := .int "MOST_HELD" 10000) rfl); ⟨_, e, t, rfl⟩,
   ⟨supT_BadLot, SB0, cs.at 0⟩,
   He.cls_ok (c.fact 60 (f := .cls "Lot") rfl),
   He.mkr_ok (c.fact 61 (f := .mkr "Lot") rfl),
   He.meth_ok (c.fact 62 (f := .meth "Lot" "keep") rfl),
   He.noat_ok (c.fact 63 (f := .noat "Lot" "word") rfl),
   He.noat_ok (c.fact 64 (f := .noat "Lot" "makers") rfl),
   He.noat_ok (c.fact 65 (f := .noat "Lot" "leasts") rfl),
   He.exm_ok (c.fact 66 (f := .exm "BadLot" "CountsError" true) rfl),
   Us.ownC_of (He.cls_ok (c.fact 60 (f := .cls "Lot") rfl)) (Us.all_at ce 0 rfl),
   Us.ownQ_of (Us.all_at ce 1 rfl),
   Us.excC_of (Us.all_at ce 2 rfl),
   of_decide_eq_true (Us.all_at ce 3 rfl),
   of_decide_eq_true (Us.all_at ce 4 rfl),
   of_decide_eq_true (Us.all_at ce 5 rfl),
   of_decide_eq_true (Us.all_at ce 6 rfl),
   of_decide_eq_true (Us.all_at ce 7 rfl),
   of_decide_eq_true (Us.all_at ce 8 rfl),
   of_decide_eq_true (Us.all_at ce 9 rfl),
   of_decide_eq_true (Us.all_at ce 10 rfl),
   of_decide_eq_true (Us.all_at ce 11 rfl),
   of_decide_eq_true (Us.all_at ce 12 rfl)⟩
end K01
set_option maxRecDepth 100000
set_option maxHeartbeats 2000000
/-! sums of makers: the program's table of least sums, and what is a sum -/
namespace Us
/-- x is a sum of members of ms -/
inductive Gen (ms : List Nat) : Nat → Prop where
  | zero : Gen ms 0
  | add {x m : Nat} (hm : m ∈ ms) (h : Gen ms x) : Gen ms (x + m)
theorem Gen.mono {ms ns : List Nat} (h : ∀ m ∈ ms, m ∈ ns) {x : Nat} (g : Gen ms x) : Gen ns x := by
  induction g with
  | zero => exact .zero
  | add hm _ ih => exact .add (h _ hm) ih
theorem Gen.plus {ms : List Nat} {x y : Nat} (gx : Gen ms x) (gy : Gen ms y) : Gen ms (x + y) := by
  induction gy with
  | zero => exact gx
  | add hm _ ih => exact (Nat.add_assoc _ _ _) ▸ Gen.add hm ih
theorem Gen.one {ms : List Nat} {m : Nat} (h : m ∈ ms) : Gen ms m := by simpa using Gen.add h Gen.zero
theorem Gen.times {ms : List Nat} {m : Nat} (h : m ∈ ms) : ∀ k, Gen ms (k * m)
  | 0 => by rw [Nat.zero_mul]; exact .zero
  | k + 1 => by rw [Nat.succ_mul]; exact .add h (Gen.times h k)
theorem Gen.of {ms ns : List Nat} (h : ∀ m ∈ ms, Gen ns m) {x : Nat} (g : Gen ms x) : Gen ns x := by
  induction g with
  | zero => exact .zero
  | add hm _ ih => exact ih.plus (h _ hm)
/-- the makers of a sum are not greater -/
theorem Gen.le {ms : List Nat} {x : Nat} (g : Gen ms x) : Gen (ms.filter fun m => decide (m ≤ x)) x := by
  have key : ∀ y, x ≤ y → Gen (ms.filter fun m => decide (m ≤ y)) x := by
    induction g with
    | zero => exact fun _ _ => .zero
    | @add z m hm _ ih => exact fun y hy => .add (List.mem_filter.mpr ⟨hm, decide_eq_true (by omega)⟩) (ih y (by omega))
  exact key x (Nat.le_refl x)
theorem gen_rec {ms : List Nat} (hp : ∀ m ∈ ms, 0 < m) {x : Nat} (hx : 0 < x) : Gen ms x ↔ ∃ m ∈ ms, m ≤ x ∧ Gen ms (x - m) := by
  constructor
  · intro g
    cases g with
    | zero => omega
    | @add y m hm h => exact ⟨m, hm, by omega, by rw [Nat.add_sub_cancel]; exact h⟩
  · rintro ⟨m, hm, hl, g⟩
    have := Gen.add hm g
    rwa [Nat.sub_add_cancel hl] at this
/-! ### the table -/
def oget (f : List (Option Nat)) (i : Nat) : Option Nat := f.getD i none
def mkStep (n r : Nat) (s : List (Option Nat) × Bool) (m : Nat) : List (Option Nat) × Bool := match oget s.1 r with
  | none => s
  | some b => match oget s.1 ((b + m) % n) with
    | none => (s.1.set ((b + m) % n) (some (b + m)), true)
    | some k => if b + m < k then (s.1.set ((b + m) % n) (some (b + m)), true) else s
def restStep (ms : List Nat) (n : Nat) (s : List (Option Nat) × Bool) (r : Nat) : List (Option Nat) × Bool := match oget s.1 r with
  | none => s
  | some _ => ms.foldl (mkStep n r) s
def sweep (ms : List Nat) (n : Nat) (f : List (Option Nat)) : List (Option Nat) × Bool := (List.range n).foldl (restStep ms n) (f, false)
/-- the loop: k further turns -/
inductive Lea (ms : List Nat) (n : Nat) : Nat → List (Option Nat) → List (Option Nat) → Prop where
  | stop {f g : List (Option Nat)} (h : sweep ms n f = (g, false)) : Lea ms n 0 f g
  | go {k : Nat} {f g g' : List (Option Nat)} (h : sweep ms n f = (g, true)) (r : Lea ms n k g g') : Lea ms n (k + 1) f g'
theorem oget_set {f : List (Option Nat)} {i j : Nat} {v : Option Nat} (hi : i < f.length) : oget (f.set i v) j = if j = i then v else oget f j := by
  unfold oget
  rw [List.getD_eq_getElem?_getD, List.getD_eq_getElem?_getD, List.getElem?_set]
  by_cases h : i = j
  · subst h
    simp [hi]
  · simp [h, Ne.symm h]
/-! ### what holds all along -/
structure TabOk (ms : List Nat) (n : Nat) (f : List (Option Nat)) : Prop where
  len : f.length = n
  zero : oget f 0 = some 0
  sound : ∀ j l, oget f j = some l → l % n = j ∧ Gen ms l
/-- one is no higher than the other -/
def Low (f g : List (Option Nat)) : Prop := ∀ j l, oget g j = some l → ∃ k, oget f j = some k ∧ k ≤ l
theorem Low.refl (f : List (Option Nat)) : Low f f := fun j l h => ⟨l, h, Nat.le_refl _⟩
theorem Low.trans {f g h : List (Option Nat)} (a : Low f g) (b : Low g h) : Low f h := fun j l e => by
  obtain ⟨k, e1, l1⟩ := b j l e
  obtain ⟨k2, e2, l2⟩ := a j k e1
  exact ⟨k2, e2, Nat.le_trans l2 l1⟩
/-- (how many are none, their sum) -/
def nones (f : List (Option Nat)) : Nat := (f.filter (·.isNone)).length
def total (f : List (Option Nat)) : Nat := (f.map (·.getD 0)).sum
def Less (f g : List (Option Nat)) : Prop := nones f < nones g ∨ (nones f = nones g ∧ total f < total g)
theorem Less.trans {f g h : List (Option Nat)} (a : Less f g) (b : Less g h) : Less f h := by
  unfold Less at *
  omega
theorem set_less : ∀ {f : List (Option Nat)} {i l : Nat}, i < f.length → (oget f i = none ∨ ∃ k, oget f i = some k ∧ l < k) → Less (f.set i (some l)) f
  | [], i, l, h, _ => by cases h
  | x :: f, 0, l, _, h => by
    cases x with
    | none => exact .inl (by simp [nones])
    | some k =>
      rcases h with h | ⟨k', h, hl⟩
      · cases h
      · cases h
        exact .inr ⟨by simp [nones], by simp [total]; omega⟩
  | x :: f, i + 1, l, hi, h => by
    have ih := set_less (f := f) (i := i) (l := l) (by simpa using hi) h
    cases x with
    | none =>
      rcases ih with a | ⟨a, b⟩
      · exact .inl (by simp only [nones, List.set_cons_succ, List.filter_cons] at *; simpa using a)
      · exact .inr ⟨by simp only [nones, List.set_cons_succ, List.filter_cons] at *; simpa using a, by simp only [total, List.set_cons_succ, List.map_cons, List.sum_cons] at *; omega⟩
    | some y =>
      rcases ih with a | ⟨a, b⟩
      · exact .inl (by simp only [nones, List.set_cons_succ, List.filter_cons] at *; simpa using a)
      · exact .inr ⟨by simp only [nones, List.set_cons_succ, List.filter_cons] at *; simpa using a, by simp only [total, List.set_cons_succ, List.map_cons, List.sum_cons] at *; omega⟩
/-- from s to t within a turn -/
structure Step (ms : List Nat) (n : Nat) (s t : List (Option Nat) × Bool) : Prop where
  ok : TabOk ms n t.1
  low : Low t.1 s.1
  less : (t = s) ∨ (t.2 = true ∧ Less t.1 s.1)
theorem Step.refl {ms : List Nat} {n : Nat} {s : List (Option Nat) × Bool} (h : TabOk ms n s.1) : Step ms n s s := ⟨h, Low.refl _, .inl rfl⟩
theorem Step.trans {ms : List Nat} {n : Nat} {s t u : List (Option Nat) × Bool} (a : Step ms n s t) (b : Step ms n t u) : Step ms n s u := by
  refine ⟨b.ok, b.low.trans a.low, ?_⟩
  rcases b.less with rfl | ⟨b1, b2⟩
  · exact a.less
  · rcases a.less with rfl | ⟨a1, a2⟩
    · exact .inr ⟨b1, b2⟩
    · exact .inr ⟨b1, b2.trans a2⟩
section
variable {ms : List Nat} {n : Nat} (hn : 0 < n)
theorem mk_step {s : List (Option Nat) × Bool} {r m : Nat} (h : TabOk ms n s.1) (hm : m ∈ ms) (hn : 0 < n) (hpos : ∀ m ∈ ms, 0 < m) : Step ms n s (mkStep n r s m) := by
  unfold mkStep
  cases hr : oget s.1 r with
  | none => exact Step.refl h
  | some b =>
    have hb := h.sound r b hr
    have hj : (b + m) % n < s.1.length := by rw [h.len]; exact Nat.mod_lt _ hn
    have put : ∀ (hlow : oget s.1 ((b + m) % n) = none ∨ ∃ k, oget s.1 ((b + m) % n) = some k ∧ b + m < k), Step ms n s (s.1.set ((b + m) % n) (some (b + m)), true) := by
      intro hlow
      refine ⟨⟨by simp [h.len], ?_, fun j l e => ?_⟩, fun j l e => ?_, .inr ⟨rfl, set_less hj hlow⟩⟩
      · rw [oget_set hj]
        split
        · rename_i e
          rcases hlow with q | ⟨k, q, hk⟩
          · rw [← e, h.zero] at q; cases q
          · rw [← e, h.zero] at q; cases q; omega
        · exact h.zero
      · simp only at e
        rw [oget_set hj] at e
        split at e
        · rename_i ej
          cases e
          exact ⟨ej.symm, hb.2.add hm⟩
        · exact h.sound j l e
      · show ∃ k, oget (s.1.set _ _) j = some k ∧ k ≤ l
        rw [oget_set hj]
        split
        · rename_i ej
          refine ⟨b + m, rfl, ?_⟩
          rcases hlow with q | ⟨k, q, hk⟩
          · rw [← ej, e] at q; cases q
          · rw [← ej, e] at q; cases q; omega
        · exact ⟨l, e, Nat.le_refl _⟩
    cases hk : oget s.1 ((b + m) % n) with
    | none => simp only [hk]; exact put (.inl hk)
    | some k =>
      simp only [hk]
      split
      · rename_i hl
        exact put (.inr ⟨k, hk, hl⟩)
      · exact Step.refl h
theorem fold_mk {r : Nat} (hn : 0 < n) (hpos : ∀ m ∈ ms, 0 < m) : ∀ {l : List Nat} {s : List (Option Nat) × Bool}, (∀ m ∈ l, m ∈ ms) → TabOk ms n s.1 → Step ms n s (l.foldl (mkStep n r) s)
  | [], s, _, h => Step.refl h
  | m :: l, s, hl, h => by
    have a := mk_step (r := r) h (hl m (List.mem_cons_self ..)) hn hpos
    exact a.trans (fold_mk hn hpos (fun m hm => hl m (List.mem_cons_of_mem _ hm)) a.ok)
theorem rest_step {s : List (Option Nat) × Bool} {r : Nat} (hn : 0 < n) (hpos : ∀ m ∈ ms, 0 < m) (h : TabOk ms n s.1) : Step ms n s (restStep ms n s r) := by
  unfold restStep
  split
  · exact Step.refl h
  · exact fold_mk hn hpos (fun _ h => h) h
theorem fold_rest (hn : 0 < n) (hpos : ∀ m ∈ ms, 0 < m) : ∀ {l : List Nat} {s : List (Option Nat) × Bool}, TabOk ms n s.1 → Step ms n s (l.foldl (restStep ms n) s)
  | [], s, h => Step.refl h
  | r :: l, s, h => by
    have a := rest_step (r := r) hn hpos h
    exact a.trans (fold_rest hn hpos a.ok)
theorem sweep_step {f : List (Option Nat)} (hn : 0 < n) (hpos : ∀ m ∈ ms, 0 < m) (h : TabOk ms n f) : Step ms n (f, false) (sweep ms n f) := fold_rest hn hpos h
/-- the loop ends -/
theorem lea_ends (hn : 0 < n) (hpos : ∀ m ∈ ms, 0 < m) : ∀ (c t : Nat) (f : List (Option Nat)), nones f = c → total f = t → TabOk ms n f → ∃ k g, Lea ms n k f g := by
  intro c
  induction c using Nat.strongRecOn with
  | ind c ihc =>
    intro t
    induction t using Nat.strongRecOn with
    | ind t iht =>
      intro f hc ht hf
      have st := sweep_step hn hpos hf
      rcases hs : sweep ms n f with ⟨g, b⟩
      rw [hs] at st
      cases b with
      | false => exact ⟨0, g, .stop hs⟩
      | true =>
        rcases st.less with e | ⟨_, l | ⟨l1, l2⟩⟩
        · cases e
        · obtain ⟨k, g', r⟩ := ihc (nones g) (by subst hc; exact l) (total g) g rfl rfl st.ok
          exact ⟨k + 1, g', .go hs r⟩
        · obtain ⟨k, g', r⟩ := iht (total g) (by subst ht; exact l2) g (l1.trans hc) rfl st.ok
          exact ⟨k + 1, g', .go hs r⟩
/-- a turn without a change: nothing is to be lowered -/
theorem mk_still {s : List (Option Nat) × Bool} {r m b : Nat} (hr : oget s.1 r = some b) (h : mkStep n r s m = s) (hf : s.2 = false) : ∃ k, oget s.1 ((b + m) % n) = some k ∧ k ≤ b + m := by
  unfold mkStep at h
  rw [hr] at h
  dsimp only at h
  cases hk : oget s.1 ((b + m) % n) with
  | none => rw [hk] at h; rw [← h] at hf; cases hf
  | some k =>
    rw [hk] at h
    dsimp only at h
    refine ⟨k, rfl, ?_⟩
    by_cases hl : b + m < k
    · rw [if_pos hl] at h; rw [← h] at hf; cases hf
    · omega
theorem flag_mono {s t : List (Option Nat) × Bool} (h : Step ms n s t) (ht : t.2 = false) : t = s := by
  rcases h.less with e | ⟨e, _⟩
  · exact e
  · rw [e] at ht; cases ht
theorem fold_still {r b : Nat} (hn : 0 < n) (hpos : ∀ m ∈ ms, 0 < m) : ∀ {l : List Nat} {s : List (Option Nat) × Bool}, (∀ m ∈ l, m ∈ ms) → TabOk ms n s.1 → oget s.1 r = some b → s.2 = false → (l.foldl (mkStep n r) s).2 = false →
    ∀ m ∈ l, ∃ k, oget s.1 ((b + m) % n) = some k ∧ k ≤ b + m
  | [], s, _, _, _, _, _ => fun m hm => by cases hm
  | m :: l, s, hl, h, hr, hs, hf => by
    have a := mk_step (r := r) h (hl m (List.mem_cons_self ..)) hn hpos
    have hl' : ∀ m ∈ l, m ∈ ms := fun m hm => hl m (List.mem_cons_of_mem _ hm)
    have c := fold_mk (r := r) hn hpos hl' a.ok
    have e2 : (mkStep n r s m).2 = false := by
      rw [← flag_mono c hf]
      exact hf
    have e := flag_mono a e2
    intro m' hm'
    rcases List.mem_cons.mp hm' with rfl | hm'
    · exact mk_still hr e hs
    · have hf' : (l.foldl (mkStep n r) s).2 = false := by
        have : (m :: l).foldl (mkStep n r) s = l.foldl (mkStep n r) s := by rw [List.foldl_cons, e]
        rw [← this]; exact hf
      exact fold_still hn hpos hl' h hr hs hf' m' hm'
theorem rest_still (hn : 0 < n) (hpos : ∀ m ∈ ms, 0 < m) : ∀ {l : List Nat} {s : List (Option Nat) × Bool}, TabOk ms n s.1 → s.2 = false → (l.foldl (restStep ms n) s).2 = false → ∀ r ∈ l, ∀ b, oget s.1 r = some b → ∀ m ∈ ms, ∃ k, oget s.1 ((b + m) % n) = some k ∧ k ≤ b + m
  | [], s, _, _, _ => fun r hr => by cases hr
  | r :: l, s, h, hs, hf => by
    have a := rest_step (r := r) hn hpos h
    have c := fold_rest (l := l) hn hpos a.ok
    have e2 : (restStep ms n s r).2 = false := by
      rw [← flag_mono c hf]
      exact hf
    have e := flag_mono a e2
    intro r' hr' b hb m hm
    rcases List.mem_cons.mp hr' with rfl | hr'
    · unfold restStep at e2
      rw [hb] at e2
      exact fold_still hn hpos (fun _ h => h) h hb hs e2 m hm
    · have hf' : (l.foldl (restStep ms n) s).2 = false := by
        have : (r :: l).foldl (restStep ms n) s = l.foldl (restStep ms n) s := by rw [List.foldl_cons, e]
        rw [← this]; exact hf
      exact rest_still hn hpos h hs hf' r' hr' b hb m hm
/-- what the end's table tells -/
structure Tab (ms : List Nat) (n : Nat) (f : List (Option Nat)) : Prop where
  ok : TabOk ms n f
  full : ∀ x, Gen ms x → ∃ l, oget f (x % n) = some l ∧ l ≤ x
theorem lea_tab (hn : 0 < n) (hpos : ∀ m ∈ ms, 0 < m) {k : Nat} {f g : List (Option Nat)} (h : Lea ms n k f g) (hf : TabOk ms n f) : Tab ms n g := by
  induction h with
  | @stop f g h =>
    have st := sweep_step hn hpos hf
    rw [h] at st
    have e := flag_mono st rfl
    have e' : g = f := congrArg Prod.fst e
    subst e'
    refine ⟨hf, fun x gx => ?_⟩
    have still := rest_still (l := List.range n) (s := (g, false)) hn hpos hf rfl (by show (sweep ms n g).2 = false; rw [h])
    induction gx with
    | zero => exact ⟨0, by rw [Nat.zero_mod]; exact hf.zero, Nat.le_refl _⟩
    | @add x m hm _ ih =>
      obtain ⟨b, hb, lb⟩ := ih
      obtain ⟨k, hk, lk⟩ := still (x % n) (List.mem_range.mpr (Nat.mod_lt _ hn)) b hb m hm
      have hs := (hf.sound _ _ hb).1
      have e : (b + m) % n = (x + m) % n := by rw [Nat.add_mod, hs, ← Nat.add_mod]
      exact ⟨k, by rw [← e]; exact hk, by omega⟩
  | @go k f g g' h r ih =>
    have st := sweep_step hn hpos hf
    rw [h] at st
    exact ih st.ok
def isSumB (f : List (Option Nat)) (x : Nat) : Bool := match oget f (x % f.length) with
  | none => false
  | some l => decide (l ≤ x)
theorem Tab.sum {f : List (Option Nat)} (h : Tab ms n f) (hm : n ∈ ms) (x : Nat) : isSumB f x = true ↔ Gen ms x := by
  unfold isSumB
  rw [h.ok.len]
  constructor
  · intro e
    split at e
    · cases e
    · rename_i l hl
      have hx : l ≤ x := of_decide_eq_true e
      obtain ⟨e1, g⟩ := h.ok.sound _ _ hl
      obtain ⟨q, hq⟩ : ∃ q, x = l + q * n := by
        have e2 : (x - l) % n = 0 := by
          have := Nat.sub_mod_eq_zero_of_mod_eq (m := x) (n := l) (k := n) (by rw [e1])
          exact this
        obtain ⟨q, hq⟩ := Nat.dvd_of_mod_eq_zero e2
        exact ⟨q, by rw [Nat.mul_comm] at hq; omega⟩
      rw [hq]
      exact g.plus (Gen.times hm q)
  · intro g
    obtain ⟨l, hl, le⟩ := h.full x g
    rw [hl]
    exact decide_eq_true le
/-- one table only -/
theorem Tab.uniq {ns : List Nat} {f g : List (Option Nat)} (hn : 0 < n) (h : Tab ms n f) (h' : Tab ns n g) (e : ∀ x, Gen ms x ↔ Gen ns x) : f = g := by
  have half : ∀ {as bs : List Nat} {f g : List (Option Nat)}, Tab as n f → Tab bs n g → (∀ x, Gen as x → Gen bs x) → ∀ j l, oget f j = some l → ∃ k, oget g j = some k ∧ k ≤ l := fun h h' e j l hl => by
    obtain ⟨e1, gl⟩ := h.ok.sound j l hl
    obtain ⟨k, hk, lk⟩ := h'.full l (e l gl)
    rw [e1] at hk
    exact ⟨k, hk, lk⟩
  have eq : ∀ j, oget f j = oget g j := fun j => by
    cases hf : oget f j with
    | none =>
      cases hg : oget g j with
      | none => rfl
      | some l =>
        obtain ⟨k, hk, _⟩ := half h' h (fun x => (e x).mpr) j l hg
        rw [hf] at hk; cases hk
    | some l =>
      obtain ⟨k, hk, lk⟩ := half h h' (fun x => (e x).mp) j l hf
      obtain ⟨k2, hk2, lk2⟩ := half h' h (fun x => (e x).mpr) j k hk
      rw [hf] at hk2
      cases hk2
      rw [hk]
      exact congrArg some (by omega)
  refine List.ext_getElem? fun j => ?_
  have ej := eq j
  unfold oget at ej
  rw [List.getD_eq_getElem?_getD, List.getD_eq_getElem?_getD] at ej
  have lf := h.ok.len
  have lg := h'.ok.len
  by_cases hj : j < n
  · rw [List.getElem?_eq_getElem (by omega), List.getElem?_eq_getElem (by omega)] at *
    exact congrArg some ej
  · rw [List.getElem?_eq_none (by omega), List.getElem?_eq_none (by omega)]
end
def startT (n : Nat) : List (Option Nat) := (List.replicate n none).set 0 (some 0)
theorem start_ok {ms : List Nat} {n : Nat} (hn : 0 < n) : TabOk ms n (startT n) := by
  have hl : 0 < (List.replicate n (none : Option Nat)).length := by simpa using hn
  have ho : ∀ j, oget (List.replicate n (none : Option Nat)) j = none := fun j => by
    unfold oget
    rw [List.getD_eq_getElem?_getD, List.getElem?_replicate]
    split <;> rfl
  refine ⟨by simp [startT], by unfold startT; rw [oget_set hl, if_pos rfl], fun j l e => ?_⟩
  unfold startT at e
  rw [oget_set hl] at e
  split at e
  · rename_i ej
    cases e
    exact ⟨by rw [ej, Nat.zero_mod], .zero⟩
  · rw [ho] at e; cases e
/-- f is the table of ms -/
def LeaT (ms : List Nat) (f : List (Option Nat)) : Prop := ∃ a r, ms = a :: r ∧ ∃ k, Lea ms a k (startT a) f
theorem leaT_ex {ms : List Nat} (h0 : ms ≠ []) (hpos : ∀ m ∈ ms, 0 < m) : ∃ f, LeaT ms f := by
  cases ms with
  | nil => exact absurd rfl h0
  | cons a r =>
    have ha := hpos a (List.mem_cons_self ..)
    obtain ⟨k, g, h⟩ := lea_ends (ms := a :: r) ha hpos _ _ (startT a) rfl rfl (start_ok ha)
    exact ⟨g, a, r, rfl, k, h⟩
theorem LeaT.tab {a : Nat} {r : List Nat} {f : List (Option Nat)} (h : LeaT (a :: r) f) (hpos : ∀ m ∈ a :: r, 0 < m) : Tab (a :: r) a f := by
  obtain ⟨a', r', e, k, h⟩ := h
  cases e
  exact lea_tab (hpos a (List.mem_cons_self ..)) hpos h (start_ok (hpos a (List.mem_cons_self ..)))
theorem LeaT.sum {ms : List Nat} {f : List (Option Nat)} (h : LeaT ms f) (hpos : ∀ m ∈ ms, 0 < m) (x : Nat) : isSumB f x = true ↔ Gen ms x := by
  cases ms with
  | nil => obtain ⟨a, r, e, _⟩ := h; cases e
  | cons a r => exact (h.tab hpos).sum (List.mem_cons_self ..) x
/-! ### the makers that are needed -/
open Classical in
noncomputable def needStep (acc : List Nat) (m : Nat) : List Nat := if Gen acc m then acc else acc ++ [m]
noncomputable def need (l : List Nat) : List Nat := l.foldl needStep []
theorem need_snoc (l : List Nat) (m : Nat) : need (l ++ [m]) = needStep (need l) m := by unfold need; rw [List.foldl_append]; rfl
theorem snocInd {P : List Nat → Prop} (h0 : P []) (h1 : ∀ l a, P l → P (l ++ [a])) : ∀ (n : Nat) (l : List Nat), l.length = n → P l
  | 0, l, h => by rw [List.length_eq_zero_iff.mp h]; exact h0
  | n + 1, l, h => by
    have hl : l ≠ [] := fun e => by rw [e] at h; cases h
    rw [← List.dropLast_concat_getLast hl]
    exact h1 _ _ (snocInd h0 h1 n _ (by rw [List.length_dropLast, h]; rfl))
theorem need_sub : ∀ (l : List Nat), ∀ m ∈ need l, m ∈ l := by
  intro l
  refine snocInd (P := fun l => ∀ m ∈ need l, m ∈ l) (fun m hm => by cases hm) (fun l a ih m hm => ?_) _ l rfl
  rw [need_snoc] at hm
  unfold needStep at hm
  split at hm
  · exact List.mem_append_left _ (ih m hm)
  · rcases List.mem_append.mp hm with hm | hm
    · exact List.mem_append_left _ (ih m hm)
    · exact List.mem_append_right _ hm
theorem need_gen : ∀ (l : List Nat) (x : Nat), Gen (need l) x ↔ Gen l x := by
  intro l x
  refine ⟨Gen.mono (need_sub l), Gen.of ?_⟩
  refine snocInd (P := fun l => ∀ m ∈ l, Gen (need l) m) (fun m hm => by cases hm) (fun l a ih m hm => ?_) _ l rfl
  rw [need_snoc]
  unfold needStep
  rcases List.mem_append.mp hm with hm | hm
  · split
    · exact ih m hm
    · exact (ih m hm).mono fun y hy => List.mem_append_left _ hy
  · rw [List.mem_singleton.mp hm]
    split
    · assumption
    · exact Gen.one (List.mem_append_right _ (List.mem_singleton.mpr rfl))
theorem need_ne {l : List Nat} (h : l ≠ []) (hpos : ∀ m ∈ l, 0 < m) : need l ≠ [] := by
  intro e
  cases l with
  | nil => exact h rfl
  | cons a r =>
    have g := (need_gen (a :: r) a).mpr (Gen.one (List.mem_cons_self ..))
    rw [e] at g
    have ha := hpos a (List.mem_cons_self ..)
    cases g with
    | zero => omega
    | add hm _ => cases hm
/-- the least maker comes first in both -/
theorem need_head {a : Nat} {r : List Nat} (hpos : ∀ m ∈ a :: r, 0 < m) : ∃ r', need (a :: r) = a :: r' := by
  have h0 : needStep [] a = [a] := by
    unfold needStep
    rw [if_neg]
    · rfl
    · intro g
      have ha := hpos a (List.mem_cons_self ..)
      cases g with
      | zero => omega
      | add hm _ => cases hm
  have key : ∀ (l acc : List Nat), ∃ r', l.foldl needStep (a :: acc) = a :: r' := by
    intro l
    induction l with
    | nil => exact fun acc => ⟨acc, rfl⟩
    | cons m l ih =>
      intro acc
      rw [List.foldl_cons]
      unfold needStep
      split
      · exact ih acc
      · exact ih (acc ++ [m])
  unfold need
  rw [List.foldl_cons, h0]
  exact key r []
/-! ### the law's own way: all numbers in turn -/
open Classical in
noncomputable def ownStep (l : List Nat) (acc : List Nat) (x : Nat) : List Nat := if Gen l x ∧ ¬ Gen acc x then acc ++ [x] else acc
theorem filter_succ {l : List Nat} (hs : l.Pairwise (· < ·)) (x : Nat) : l.filter (fun m => decide (m < x + 1)) = l.filter (fun m => decide (m < x)) ++ if x ∈ l then [x] else [] := by
  induction l with
  | nil => rfl
  | cons a r ih =>
    have hs' := List.pairwise_cons.mp hs
    have ih' := ih hs'.2
    by_cases h1 : a < x
    · rw [List.filter_cons_of_pos (by simpa using (by omega : a < x + 1)), List.filter_cons_of_pos (by simpa using h1), ih']
      have : (x ∈ a :: r) = (x ∈ r) := by simp; omega
      simp only [this, List.cons_append]
    · have e1 : r.filter (fun m => decide (m < x)) = [] := List.filter_eq_nil_iff.mpr fun m hm => by
        have := hs'.1 m hm
        simp; omega
      by_cases h2 : a = x
      · subst h2
        have e2 : r.filter (fun m => decide (m < a + 1)) = [] := List.filter_eq_nil_iff.mpr fun m hm => by
          have := hs'.1 m hm
          simp; omega
        rw [List.filter_cons_of_pos (by simp), List.filter_cons_of_neg (by simp), e1, e2]
        simp
      · have e2 : r.filter (fun m => decide (m < x + 1)) = [] := List.filter_eq_nil_iff.mpr fun m hm => by
          have := hs'.1 m hm
          simp; omega
        have e3 : x ∉ a :: r := fun hx => by
          rcases List.mem_cons.mp hx with e | hx
          · exact h2 e.symm
          · have := hs'.1 x hx; omega
        rw [List.filter_cons_of_neg (by simp; omega), List.filter_cons_of_neg (by simpa using h1), e1, e2, if_neg e3]
        rfl
theorem own_need {l : List Nat} (hs : l.Pairwise (· < ·)) (hpos : ∀ m ∈ l, 0 < m) : ∀ n, ((List.range n).map (· + 1)).foldl (ownStep l) [] = need (l.filter fun m => decide (m < n + 1))
  | 0 => by
    have : l.filter (fun m => decide (m < 0 + 1)) = [] := List.filter_eq_nil_iff.mpr fun m hm => by
      have := hpos m hm
      simp; omega
    rw [this]
    rfl
  | n + 1 => by
    rw [List.range_succ, List.map_append, List.foldl_append, own_need hs hpos n, filter_succ hs (n + 1)]
    show ownStep l (need (l.filter fun m => decide (m < n + 1))) (n + 1) = _
    by_cases hm : n + 1 ∈ l
    · rw [if_pos hm, need_snoc]
      unfold ownStep needStep
      by_cases g : Gen (need (l.filter fun m => decide (m < n + 1))) (n + 1)
      · rw [if_neg (fun z => z.2 g), if_pos g]
      · rw [if_pos ⟨Gen.one hm, g⟩, if_neg g]
    · rw [if_neg hm, List.append_nil]
      unfold ownStep
      rw [if_neg]
      rintro ⟨g, ng⟩
      refine ng ((need_gen _ _).mpr (g.le.mono fun m hm' => ?_))
      obtain ⟨h1, h2⟩ := List.mem_filter.mp hm'
      have h3 : m ≤ n + 1 := of_decide_eq_true h2
      refine List.mem_filter.mpr ⟨h1, decide_eq_true ?_⟩
      rcases Nat.lt_or_ge m (n + 1) with h | h
      · exact h
      · exact absurd ((by omega : m = n + 1) ▸ h1) hm
end Us
set_option maxRecDepth 100000
set_option maxHeartbeats 2000000
namespace Us
open PySem PySem.Spec PyProof.Rows L2
theorem pmk_supX {X : Cx} {d : SupT} {te : TE} {x : Str} {e : Expr} {p pos : Pos} {k : Nat} (ex : d.x = x) (S : SupOk X.prog X.K d) (gC : X.mg x = some (.ref (He.ga X.K x))) (hr : Room (k + 2) X.A) (hg : Gl X x) (he : PE X e te)
    (hdb : (x == ("__debug__" : Str)) = false := by decide) (hs : starEach [e] X.env = (false, eval e X.env) :: starEach [] X.env := by rfl) : PMk X (.Call (.Name x p) [e] [] pos) (tSup (He.ga X.K x) d.F te) := by
  subst ex
  exact pmk_sup (CX := CX0) S gC hr hg pass0 he hdb hs
theorem iteNF {A B : Prop} (h : B) : if (!true) = true then A else B := h
theorem iteNT {A B : Prop} (h : A) : if (!false) = true then A else B := h
/-! ### == of sequences of ints, of flags -/
theorem lay_ints : ∀ ms : List Nat, PyData.canLayAll0 (ms.map fun m : Nat => PyData.int (m : Int)) = true ∧ PyData.depthAll (ms.map fun m : Nat => PyData.int (m : Int)) ≤ 1
  | [] => ⟨by simp [PyData.canLayAll0], by simp [PyData.depthAll]⟩
  | m :: ms => by
    have h := lay_ints ms
    exact ⟨by simp [PyData.canLayAll0, PyData.canLay0, h.1], by simp [PyData.depthAll, PyData.depth]; exact h.2⟩
theorem lay_bls : ∀ bs : List Bool, PyData.canLayAll0 (bs.map PyData.bool) = true ∧ PyData.depthAll (bs.map PyData.bool) ≤ 1
  | [] => ⟨by simp [PyData.canLayAll0], by simp [PyData.depthAll]⟩
  | m :: ms => by
    have h := lay_bls ms
    exact ⟨by simp [PyData.canLayAll0, PyData.canLay0, h.1], by simp [PyData.depthAll, PyData.depth]; exact h.2⟩
theorem eqv_ints : ∀ ms ns : List Nat, PyData.eqvAll (ms.map fun m : Nat => PyData.int (m : Int)) (ns.map fun m : Nat => PyData.int (m : Int)) = decide (ms = ns)
  | [], [] => by simp [PyData.eqvAll]
  | [], n :: ns => by simp [PyData.eqvAll]
  | m :: ms, [] => by simp [PyData.eqvAll]
  | m :: ms, n :: ns => by
    rw [List.map_cons, List.map_cons, PyData.eqvAll, eqv_ints ms ns]
    have e : PyData.eqv (.int (m : Int)) (.int (n : Int)) = decide (m = n) := by
      simp only [PyData.eqv]
      by_cases h : m = n
      · subst h; simp
      · rw [decide_eq_false h]; exact beq_eq_false_iff_ne.mpr (by omega)
    rw [e]
    by_cases h : m = n <;> by_cases h2 : ms = ns <;> simp [h, h2]
theorem eqv_bls : ∀ ms ns : List Bool, PyData.eqvAll (ms.map PyData.bool) (ns.map PyData.bool) = decide (ms = ns)
  | [], [] => by simp [PyData.eqvAll]
  | [], n :: ns => by simp [PyData.eqvAll]
  | m :: ms, [] => by simp [PyData.eqvAll]
  | m :: ms, n :: ns => by
    rw [List.map_cons, List.map_cons, PyData.eqvAll, eqv_bls ms ns]
    have e : PyData.eqv (.bool m) (.bool n) = decide (m = n) := by
      cases m <;> cases n <;> simp [PyData.eqv]
    rw [e]
    by_cases h : m = n <;> by_cases h2 : ms = ns <;> simp [h, h2]
theorem dp_ints {K : PySem.W.Frag} {H : Hp} : ∀ ms : List Nat, DpAll K H (ms.map fun m : Nat => V.int (m : Int)) (ms.map fun m : Nat => PyData.int (m : Int))
  | [] => .nil
  | m :: ms => .cons (.int _) (dp_ints ms)
theorem dp_bls {K : PySem.W.Frag} {H : Hp} : ∀ ms : List Bool, DpAll K H (ms.map V.bl) (ms.map PyData.bool)
  | [] => .nil
  | m :: ms => .cons (.bl _) (dp_bls ms)
theorem i_eqTn {K : PySem.W.Frag} {H : Hp} {Q : VK} {p q : Addr} {ms ns : List Nat} (hp : H p = some (.tup (ms.map fun m : Nat => V.int (m : Int)))) (hq : H q = some (.tup (ns.map fun m : Nat => V.int (m : Int)))) (k : Q (.bl (decide (ms = ns))) H) : rEqD K (.ref p) (.ref q) H Q := by
  have sh : ∀ l : List Nat, SeqAt.shaped (.tuple (l.map fun m : Nat => PyData.int (m : Int))) = true := fun l => by
    have h := lay_ints l
    have h2 := h.2
    simp only [SeqAt.shaped, PyData.canLay0, PyData.depth, h.1, Bool.true_and]
    exact decide_eq_true (by omega)
  refine ⟨_, _, .tup (SqT.of hp) (dp_ints ms), .tup (SqT.of hq) (dp_ints ns), sh ms, sh ns, ?_⟩
  rw [show PyData.eqv (.tuple (ms.map fun m : Nat => PyData.int (m : Int))) (.tuple (ns.map fun m : Nat => PyData.int (m : Int))) = decide (ms = ns) by rw [← eqv_ints]; simp only [PyData.eqv]]
  exact k
theorem i_eqLb {K : PySem.W.Frag} {H : Hp} {Q : VK} {p q : Addr} {ms ns : List Bool} (hp : H p = some (.lst (ms.map V.bl))) (hq : H q = some (.lst (ns.map V.bl))) (k : Q (.bl (decide (ms = ns))) H) : rEqD K (.ref p) (.ref q) H Q := by
  have sh : ∀ l : List Bool, SeqAt.shaped (.list (l.map PyData.bool)) = true := fun l => by
    have h := lay_bls l
    have h2 := h.2
    simp only [SeqAt.shaped, PyData.canLay0, PyData.depth, h.1, Bool.true_and]
    exact decide_eq_true (by omega)
  refine ⟨_, _, .lst (SqL.of hp) (dp_bls ms), .lst (SqL.of hq) (dp_bls ns), sh ms, sh ns, ?_⟩
  rw [show PyData.eqv (.list (ms.map PyData.bool)) (.list (ns.map PyData.bool)) = decide (ms = ns) by rw [← eqv_bls]; simp only [PyData.eqv]]
  exact k
end Us
namespace Us
open PySem PySem.Spec PyProof.Rows L2
theorem i_isO {K : PySem.W.Frag} {H : Hp} {v : V} {C : Addr} {t : Value} {b : Bool} {Q : VK} (h : TyX K H v t) (k : PySem.W.kitOne K t (.ref C) = some b) (q : Q (.bl b) H) : rIsi K [v, .ref C] H Q := ⟨v, .ref C, t, _, b, rfl, .own C, h, k, q⟩
theorem ins_ty {K : PySem.W.Frag} {H : Hp} {a C dx : Addr} {fs : List (Str × V)} (h : H a = some (.ins C dx fs)) (c : OwnC K C) : TyX K H (.ref a) (.ref C) := .base (.ins h c.cl c.ha c.hn c.ht c.hm)
theorem dcl_ty {K : PySem.W.Frag} {H : Hp} {v : V} (h : Dcl K H v) : ∃ n ∈ sevenT, TyX K H v (.type n) := by
  cases h with
  | non => exact ⟨"NoneType", by decide, .base .non⟩
  | str z => exact ⟨"str", by decide, .base (.str z)⟩
  | tup h => exact ⟨"tuple", by decide, .base (.tup h)⟩
theorem Dcl.mono {K : PySem.W.Frag} {B H : Hp} {v : V} (s : Same B H) (h : Dcl K B v) : Dcl K H v := by
  cases h with
  | non => exact .non
  | str z => exact .str z
  | tup h => exact .tup (s _ _ h)
end Us
namespace Us
open PySem PySem.Spec PyProof.Rows L2
theorem i_iRng2 {tr : TA} {σ : L2.St} {H : Hp} {R : It → Hp → Prop} (h : tr σ H fun vs H1 => ∃ i j : Int, vs = [.int i, .int j] ∧ (-(2 ^ 62) ≤ i ∧ i < 2 ^ 62 ∧ -(2 ^ 62) ≤ j ∧ j < 2 ^ 62) ∧ R (Itr i (j - i).toNat) H1) : iRng2 tr σ H R := h
theorem i_iStr {te : TE} {σ : L2.St} {H : Hp} {R : It → Hp → Prop} (h : te σ H fun v H1 => ∃ x, v = .str x ∧ R (Its x) H1) : iStr te σ H R := h
end Us
namespace Us
open PySem PySem.Spec PyProof.Rows L2
theorem passNo {X : Cx} : Passes (L2.CX X.prog X.w) X (fun _ _ _ => False) := fun _ _ _ _ _ _ _ h => by
  obtain ⟨_, _, _, _, _, _, _, _, _, _, _, _, z⟩ := h
  exact z.elim
def tMakeS (C : Addr) (sp : Sp) (E : L2.St → XK) (t : TA) : TE := fun σ H Q => t σ H fun vs H1 => ∀ x dx, H1 x = none → H1 dx = none → dx ≠ x → sp (.ref x :: vs) (upd (upd H1 dx (.own x)) x (.ins C dx [])) (fun v H2 => v = .non ∧ Q (.ref x) H2) (E σ)
theorem i_makeS {C : Addr} {sp : Sp} {E : L2.St → XK} {t : TA} {σ : L2.St} {H : Hp} {Q : VK} (h : t σ H fun vs H1 => ∀ x dx, H1 x = none → H1 dx = none → dx ≠ x → sp (.ref x :: vs) (upd (upd H1 dx (.own x)) x (.ins C dx [])) (fun v H2 => v = .non ∧ Q (.ref x) H2) (E σ)) : tMakeS C sp E t σ H Q := h
section
variable {X : Cx} {CX : CXT} {k : Nat} {f C : Addr} {fd : FuncData} {ps : List Str} {sp : Sp} {E : L2.St → XK} {x : Str} {p pos : Pos} {e : Expr} {es : List Expr} {t : TA}
theorem pe_makeS (M : Mk X.K C f) (F : FnOk X.prog X.w X.K X.mg X.base CX k f fd ps sp) (hr : Room (k + 1) X.A) (hg : Gl X x) (hm : X.mg x = some (.ref C)) (hb : L2.Binds X.K fd ps []) (hx : ∀ σ, PassesAt CX X σ (E σ))
    (ha : PA X (e :: es) t) (hdb : (x == ("__debug__" : Str)) = false := by decide) (he : starEach (e :: es) X.env = (false, eval e X.env) :: starEach es X.env := by rfl) (hpl : (backTo pos (starEach es X.env)).any (·.1) = false := by rfl) :
    PE X (.Call (.Name x p) (e :: es) [] pos) (tMakeS C sp E t) := by
  refine ⟨fun pins s σ H Q I h => ?_⟩
  refine wpAny_Call_Name_kw (ld_glob I hg hm ?_ hdb)
  refine PySem.W.callWith_K (h₀ := X.base) I.ok.mod.kin M.kp (thn (ha.run pos pins s σ H _ I h) fun us s1 ⟨vs, H1, I1, r, q⟩ => ⟨I1.kIn, ?_⟩) he hpl
  have hq := q (s1.heap.objs.size + 1) s1.heap.objs.size (I1.hok.fresh (Nat.le_succ _)) (I1.hok.fresh (Nat.le_refl _)) (Nat.ne_of_lt (Nat.lt_succ_self _))
  have I2 := Inv.made (C := C) I1
  have r2 : Vals (V.ref (s1.heap.objs.size + 1) :: vs) (Value.ref (s1.heap.objs.size + 1) :: us) := .cons rfl r
  have hl : (Value.ref (s1.heap.objs.size + 1) :: us).length = ps.length := by
    have e := r2.length
    rw [F.len _ _ _ _ hq] at e
    exact e.symm
  have hbb := hb _ (Value.ref (s1.heap.objs.size + 1) :: us) I2.kIn (by rw [List.append_nil]; exact hl)
  rw [List.append_nil] at hbb
  refine wpAny_call (make_map (f := f) I1.kIn M.makes M.init (beq_iff_eq.mp M.fn) (codeAny_mono (F.run _ X.stack _ _ ⟨Value.ref (s1.heap.objs.size + 1) :: us, []⟩ (Value.ref (s1.heap.objs.size + 1) :: us) _ _ (E σ) (hr.make C us [])
    (I2.env0.make C us []) hbb r2 hq) fun r s' hq' => ?_))
  cases r with
  | error e => exact hx σ pins _ _ e s' I2 hq'
  | ok fl =>
    cases fl with
    | ret u =>
      obtain ⟨v, H', I3, rv, ev, q3⟩ := I2.after hq'
      subst ev
      exact ⟨rv, ⟨V.ref (s1.heap.objs.size + 1), H', I3, rfl, q3⟩⟩
    | next => exact False.elim hq'
    | brk => exact False.elim hq'
    | cont => exact False.elim hq'
end
end Us
namespace Us
open PySem PySem.Spec PyProof.Rows L2
def rIsD (K : PySem.W.Frag) (cls : Value) (d : Option Addr) (a : Addr) : List V → Hp → VK → Prop := fun xs H Q => ∃ (D dd : Addr) (fs : List (Str × V)) (c : V) (cv : Value) (b : Bool), cls = .ref D ∧ d = some dd ∧ H dd = some (.xd fs) ∧ ExcC K D ∧ xs = [.ref a, c] ∧ (∀ u, RelV c u → u = cv) ∧ PySem.W.kitOne K (.ref D) cv = some b ∧ Q (.bl b) H
theorem call_isD {X : Cx} {a : Addr} {oe : Obj} {pn : List (Addr × Obj)} {cls : Value} {d : Option Addr} (hz : Zc cls d oe) (hf : ∃ vs, oe.data = .fields vs) : CallR (X.suite a ((a, oe) :: pn)) (.builtin "isinstance") (rIsD X.K cls d a) := by
  intro pins s σ H xs us Q I r h
  obtain ⟨D, dd, fs, c, cv, b, rfl, rfl, hdd, C, rfl, hcv, e, q⟩ := h
  obtain ⟨u1, u2, rfl, rx, rt⟩ := vals2 r
  cases rx
  have ec := hcv _ rt
  subst ec
  obtain ⟨hget, _⟩ := I.pin (a, oe) (List.mem_append.mpr (.inl List.mem_cons_self))
  obtain ⟨vs, hv⟩ := hf
  have hx : ObjOk X.prog X.w H s.heap dd (.xd fs) := I.hok dd _ hdd
  obtain ⟨mA, hns, _⟩ := hx
  obtain ⟨od, ho, _⟩ := lookIn_ns hns
  have J : PySem.W.InstAt s.heap a oe D (some od) := ⟨hget, hz.1, by unfold PySem.W.notCls; rw [hv] <;> rfl, by rw [hz.2]; exact ho⟩
  have hcl : (PySem.W.clsIn X.K D).isSome = true := by
    obtain ⟨cd, hc, _⟩ := PySem.W.any_some C.hd
    rw [hc]; rfl
  exact PySem.W.kia_one (PySem.W.kitx_exc hcl C.hg C.hk C.hs C.ha C.hn C.ht C.hm) I.kIn J e (fun z => nomatch z) fun tk => ⟨.bl b, H, I.kept (t' := tk) fun _ _ z => z, rfl, q⟩
theorem i_isD {K : PySem.W.Frag} {D dd : Addr} {fs : List (Str × V)} {a : Addr} {c : V} {H : Hp} {Q : VK} {cv : Value} {b : Bool} (h : H dd = some (.xd fs)) (C : ExcC K D) (hu : ∀ u, RelV c u → u = cv) (hk : PySem.W.kitOne K (.ref D) cv = some b) (q : Q (.bl b) H) : rIsD K (.ref D) (some dd) a [.ref a, c] H Q := ⟨D, dd, fs, c, cv, b, rfl, rfl, h, C, rfl, hu, hk, q⟩
def optS : Option Str → V
  | none => .non
  | some z => .str z
end Us
namespace Us
open PySem PySem.Spec PyProof.Rows L2
/-- within a comprehension's block: the fragment is named -/
theorem pi_tupK {X : Cx} {tg e : Expr} {te : TE} (K : PySem.W.Frag) (hK : X.K = K) (he : PE X e te) : PI X tg e (iTup K te) := by subst hK; exact pi_tup he
theorem pi_listK {X : Cx} {tg e : Expr} {te : TE} (K : PySem.W.Frag) (hK : X.K = K) (he : PE X e te) : PI X tg e (iList K te) := by subst hK; exact pi_list he
end Us
/-! words for the readings -/
local macro_rules | `(tactic| walk_at "st") => `(tactic| first
  | (with_reducible refine Us.i_seq ?_)
  | (with_reducible refine Us.i_asg ?_)
  | (with_reducible refine Us.i_ret ?_)
  | (with_reducible refine Us.i_ifS ?_)
  | (with_reducible refine Us.i_name ?_)
  | ((with_reducible refine' Us.i_var ?h ?_); case h => exact rfl)
  | (with_reducible refine Us.i_c ?_)
  | (with_reducible refine Us.i_gcons ?_)
  | (with_reducible refine Us.i_for ?_)
  | (with_reducible refine Us.i_lc ?_)
  | (with_reducible refine Us.i_iTup ?_)
  | (with_reducible refine Us.i_iList ?_)
  | (with_reducible refine Us.i_iRng1 ?_)
  | (with_reducible refine Us.i_iRng2 ?_)
  | (with_reducible refine Us.i_iStr ?_)
  | (with_reducible refine Us.i_revT ?_)
  | (with_reducible refine Us.i_gnil ?_)
  | (with_reducible refine Us.i_par ?_)
  | (with_reducible refine Us.i_setF ?_)
  | (with_reducible refine Us.i_getF ?_)
  | (with_reducible refine Us.i_meth ?_)
  | (with_reducible refine Us.i_make ?_)
  | (with_reducible refine Us.i_makeS ?_)
  | (with_reducible refine Us.i_two ?_)
  | ((with_reducible refine' Us.i_aug ?h ?_); case h => exact rfl)
  | (with_reducible refine Us.i_op ?_)
  | (with_reducible refine Us.i_cons ?_)
  | (with_reducible refine Us.i_nil ?_)
  | (with_reducible refine Us.i_call ?_)
  | (with_reducible refine Us.i_callS ?_)
  | (with_reducible refine Us.i_cb ?_)
  | (with_reducible refine Us.i_tup ?_)
  | (with_reducible refine Us.i_lst ?_)
  | (with_reducible refine Us.i_b ?_)
  | (with_reducible refine Us.i_test ?_)
  | (with_reducible refine Us.i_and ?_)
  | (with_reducible refine Us.i_or ?_)
  | (with_reducible refine Us.i_not ?_)
  | (with_reducible refine Us.i_yes ?_)
  | (with_reducible refine Us.i_if ?_)
  | (with_reducible refine Us.i_andV ?_)
  | (with_reducible refine Us.i_orV ?_)
  | (with_reducible refine Us.i_notV ?_)
  | (with_reducible refine Us.i_chain ?_)
  | (with_reducible refine Us.i_bm0 ?_)
  | (with_reducible refine Us.i_bm ?_)
  | (with_reducible refine Us.i_sl ?_)
  | (with_reducible refine Us.i_noPart ?_)
  | (with_reducible refine Us.i_part ?_)
  | (with_reducible refine Us.i_sub ?_)
  | (with_reducible refine Us.i_un ?_)
  | (with_reducible refine Us.i_tsup ?_)
  | (with_reducible refine Us.i_drop ?_)
  | (with_reducible refine' Us.i_next ?_)
  | (with_reducible refine Us.i_retN ?_)
  | (with_reducible refine Us.i_bl ?_)
  | (with_reducible refine Us.i_int ?_)
  | (with_reducible refine Us.i_rI0 ?_)
  | (with_reducible refine Us.i_rU ?_)
  | (with_reducible refine Us.i_isNn ?_)
  | (with_reducible refine Us.i_isNi ?_)
  | (with_reducible refine Us.i_isNr ?_)
  | (with_reducible refine Us.i_isNs ?_)
  | (with_reducible refine Us.i_isNb ?_)
  | (with_reducible refine Us.i_ntNn ?_)
  | (with_reducible refine Us.i_ntNi ?_)
  | (with_reducible refine Us.i_ntNr ?_)
  | (with_reducible refine Us.i_ntNs ?_)
  | (with_reducible refine Us.i_ntNb ?_)
  | (with_reducible refine Us.i_isN ?_)
  | (with_reducible refine Us.i_notN ?_)
  | (with_reducible refine Us.i_intI ?_)
  | (with_reducible refine Us.i_intB ?_)
  | ((with_reducible refine' Us.i_eq ?h ?_); case h => exact rfl)
  | ((with_reducible refine' Us.i_ne ?h ?_); case h => exact rfl)
  | ((with_reducible refine' Us.i_isi ?hs ?sh ?_ ?hn); (case hs => assumption); (case sh => assumption); (case hn => decide))
  | (with_reducible refine Us.iteNF ?_)
  | (with_reducible refine Us.iteNT ?_)
  | (with_reducible refine L2.iteT ?_)
  | (with_reducible refine L2.iteF ?_))
local macro_rules | `(tactic| walk_at "go") => `(tactic| repeat walk_at "st")
set_option maxRecDepth 100000
set_option maxHeartbeats 2000000
namespace K01
open PySem PySem.Spec PyProof.Rows L2 Us
/-! ### promises -/
def isI : V → Bool
  | .int _ => true
  | _ => false
def spIsInt (K : PySem.W.Frag) : Sp := fun vs H Q _ => ∃ B v, vs = [v] ∧ Same B H ∧ Sh K B v ∧ Q (.bl (isI v)) H
theorem isI_eq {K : PySem.W.Frag} {B : Hp} {v : V} (sh : Sh K B v) : isI v = (shB B v "int" && !shB B v "bool") := by
  cases sh with
  | non => rfl
  | bl b => rfl
  | int i => rfl
  | str s => rfl
  | tup h => rw [shB_tup h]; rfl
  | lst h => rw [shB_lst h]; rfl
  | dct h => rw [shB_dct h]; rfl
  | ins h c => rw [shB_ins h]; rfl
def oV : Option Nat → V
  | none => .non
  | some l => .int (l : Int)
abbrev nV (m : Nat) : V := .int (m : Int)
theorem oV_at {f : List (Option Nat)} {j : Nat} (hj : j < f.length) : (f.map oV)[j]? = some (oV (oget f j)) := by
  rw [List.getElem?_map, List.getElem?_eq_getElem hj]
  unfold oget
  rw [List.getD_eq_getElem?_getD, List.getElem?_eq_getElem hj]
  rfl
theorem oV_non (o : Option Nat) : decide (oV o = .non) = o.isNone := by cases o <;> rfl
def spIsSum (K : PySem.W.Frag) : Sp := fun vs H Q _ => ∃ (p : Addr) (f : List (Option Nat)) (x : Nat), vs = [.ref p, .int (x : Int)] ∧ H p = some (.lst (f.map oV)) ∧ 0 < f.length ∧ Q (.bl (isSumB f x)) H
/-- a list or a tuple -/
def Seq (B : Hp) (p : Addr) (xs : List V) : Prop := B p = some (.lst xs) ∨ B p = some (.tup xs)
def spLeasts (K : PySem.W.Frag) : Sp := fun vs H Q _ => ∃ (B : Hp) (p : Addr) (ms : List Nat) (f : List (Option Nat)), vs = [.ref p] ∧ Same B H ∧ Seq H p (ms.map nV) ∧ (∀ m ∈ ms, 0 < m) ∧ ms.length ≤ 1000 ∧ (∀ m ∈ ms, m ≤ 1000) ∧ LeaT ms f ∧ ∀ B' H' q, Gr [] B H B' H' → B' q = some (.lst (f.map oV)) → Q (.ref q) H'
section
variable {P : Program} {w : World} {K : PySem.W.Frag} {mg : Str → Option Value} {base : Heap}
theorem ok_is_integer (T : Txt K mg) : DefOk P w K mg base CX0 1 "is_integer" p_is_integer (spIsInt K) := by
  refine T.d_is_integer.ok sc_is_integer (fun _ _ _ _ _ _ us hl => match us, hl with | [_], _ => rfl) (fun vs H Q E h => ?_) (fun f cdv A outer s H vs Q E hr h => ?_)
  · obtain ⟨B, v, rfl, _⟩ := h
    rfl
  · obtain ⟨B, v, rfl, hS, sh, k⟩ := h
    refine ⟨_, PSs.nox (pss_one (ps_ret (pe_and (pe_callB call_isi (by rfl) T.f_isinstance (by decide +kernel) (pa_cons (pv 0) (pa_cons (pe_bltn (v := .ty "int") (by rfl) T.f_int (by decide +kernel) rfl) pa_nil))) (pe_one (pe_not (pe_callB call_isi (by rfl) T.f_isinstance (by decide +kernel) (pa_cons (pv 0) (pa_cons (pe_bltn (v := .ty "bool") (by rfl) T.f_bool (by decide +kernel) rfl) pa_nil)))))))), ?_⟩
    rw [isI_eq sh] at k
    walk_at "go"
    refine i_case (fun h1 => ?_) (fun h1 => ?_)
    · walk_at "go"
      rw [h1] at k
      exact k
    · rw [h1] at k
      exact k
theorem ok_is_sum (T : Txt K mg) : DefOk P w K mg base CX0 1 "is_sum" p_is_sum (spIsSum K) := by
  refine T.d_is_sum.ok sc_is_sum (fun _ _ _ _ _ _ us hl => match us, hl with | [_, _], _ => rfl) (fun vs H Q E h => ?_) (fun fa cdv A outer s H vs Q E hr h => ?_)
  · obtain ⟨p, f, x, rfl, _⟩ := h
    rfl
  · obtain ⟨p, f, x, rfl, hp, h0, k⟩ := h
    refine ⟨_, PSs.nox (pss_cons (ps_set (i := 2) sc_is_sum.nd rfl (Or.inl rfl) (pe_ix ix_list (pv 0) (pe_op op_mod (pv 1) (pe_callB call_lenU (by rfl) T.f_len (by decide +kernel) (pa_cons (pv 0) pa_nil))) (fun _ _ => rfl)))
    (pss_one (ps_ret (pe_and (pe_cmpR op_notNU (pv 2) pe_non (nomark _)) (pe_one (pe_cmpR op_le (pv 2) (pv 1) (nomark _))))))), ?_⟩
    walk_at "go"
    refine i_lenL (SqL.of hp) ?_
    rw [List.length_map]
    refine i_rI (by show (0 : Int) < (f.length : Int); omega) ?_
    have e : (x : Int) % (f.length : Int) = ((x % f.length : Nat) : Int) := (Int.natCast_emod x f.length).symm
    have hj := oV_at (f := f) (Nat.mod_lt x h0)
    refine i_ixL (SqL.of hp) (by rw [e]; exact atI_nat hj) ?_
    unfold isSumB at k
    cases q : oget f (x % f.length) with
    | none =>
      rw [q] at k
      walk_at "go"
      exact k
    | some l =>
      rw [q] at k
      walk_at "go"
      refine iteT ?_
      walk_at "go"
      refine i_rI0 (a := (l : Int)) (b := (x : Int)) ?_
      have e2 : decide ((l : Int) ≤ (x : Int)) = decide (l ≤ x) := by
        by_cases h : l ≤ x
        · rw [decide_eq_true h, decide_eq_true (by omega)]
        · rw [decide_eq_false h, decide_eq_false (by omega)]
      rw [e2]
      exact k
theorem set_oV {f : List (Option Nat)} {j l : Nat} : (f.map oV).set j (V.int ((l : Nat) : Int)) = (f.set j (some l)).map oV := by rw [List.map_set]; rfl
theorem start_oV {a : Nat} : ((List.replicate ((a : Int)).toNat [V.non]).flatten).set 0 (V.int 0) = (Us.startT a).map oV := by
  have e : ∀ n : Nat, (List.replicate n [V.non]).flatten = List.replicate n V.non := fun n => by
    induction n with
    | zero => rfl
    | succ n ih => rw [List.replicate_succ, List.flatten_cons, ih]; rfl
  unfold Us.startT
  rw [e, List.map_set, List.map_replicate]
  rfl
theorem oget_low {f g : List (Option Nat)} (h : Low f g) {r b : Nat} (e : oget g r = some b) : ∃ b', oget f r = some b' := by
  obtain ⟨k, e1, _⟩ := h r b e
  exact ⟨k, e1⟩
theorem ok_leasts_of (T : Txt K mg) : DefOk P w K mg base CX0 1 "leasts_of" p_leasts_of (spLeasts K) := by
  refine T.d_leasts_of.ok sc_leasts_of (fun _ _ _ _ _ _ us hl => match us, hl with | [_], _ => rfl) (fun vs H Q E h => ?_) (fun fa cdv A outer s H vs Q E hr h => ?_)
  · obtain ⟨B, p, ms, f, rfl, _⟩ := h
    rfl
  · obtain ⟨B, p, ms, fin, rfl, hS, hp, hpos, hz, hmx, hL, k⟩ := h
    obtain ⟨a, rs, rfl, steps, hlea⟩ := hL
    have ha : 0 < a := hpos a (List.mem_cons_self ..)
    have ha2 : a ≤ 1000 := hmx a (List.mem_cons_self ..)
    rcases hp with hp | hp
    · refine ⟨_, PSs.nox (pss_cons (ps_set (i := 1) sc_leasts_of.nd rfl (Or.inl rfl) (pe_ix ix_list (pv 0) pe_int (fun _ _ => rfl)))
    (pss_cons (ps_set (i := 2) sc_leasts_of.nd rfl (Or.inl rfl) (pe_op op_rep (pe_lst (pa_cons pe_non pa_nil)) (pv 1)))
    (pss_cons (ps_asg pe_int (pg_sub (pv 2) pe_int set_list))
    (pss_cons (ps_set (i := 3) sc_leasts_of.nd rfl (Or.inl rfl) pe_bl)
    (pss_cons (ps_while PassesOwn.never (pt_val (pv 3))
      (pss_cons (ps_set (i := 3) sc_leasts_of.nd rfl (Or.inl rfl) pe_bl)
      (pss_one (ps_for PassesOwn.never rfl (pi_range1 (by rfl) T.f_range (pa_cons (pv 1) pa_nil)) (pg_name (i := 4) sc_leasts_of.nd rfl (Or.inl rfl))
        (pss_one (ps_if (pt_cmpR op_notNU (pe_ix ix_list (pv 2) (pv 4) (fun _ _ => rfl)) pe_non (nomark _))
          (pss_one (ps_for PassesOwn.never rfl (pi_list (pv 0)) (pg_name (i := 5) sc_leasts_of.nd rfl (Or.inl rfl))
            (pss_cons (ps_set (i := 6) sc_leasts_of.nd rfl (Or.inl rfl) (pe_op op_add (pe_ix ix_list (pv 2) (pv 4) (fun _ _ => rfl)) (pv 5)))
            (pss_cons (ps_set (i := 7) sc_leasts_of.nd rfl (Or.inl rfl) (pe_ix ix_list (pv 2) (pe_op op_mod (pv 6) (pv 1)) (fun _ _ => rfl)))
            (pss_one (ps_if (PW.pt (pw_or (pt_cmpR op_isNU (pv 7) pe_non (nomark _)) (pw_or1 (pt_cmpR op_lt (pv 6) (pv 7) (nomark _)))))
              (pss_cons (ps_asg (pv 6) (pg_sub (pv 2) (pe_op op_mod (pv 6) (pv 1)) set_list))
              (pss_one (ps_set (i := 3) sc_leasts_of.nd rfl (Or.inl rfl) pe_bl)))
              pss_nil))))))
          pss_nil))))))
    (pss_one (ps_ret (pv 2)))))))), ?_⟩
      walk_at "go"
      refine i_ixL (SqL.of hp) atI0 ?_
      walk_at "go"
      refine ⟨sz5 (by simp), fun p1 hp1 => ?_⟩
      walk_at "go"
      refine ⟨p1, _, _, rfl, rfl, upd_same, by omega, by omega, sz5 (by simp; omega), fun q hq => ?_⟩
      have g0 : Gr [] B H B (upd H p1 (.lst [.non])) := Gr.cell hS hp1
      have g1 := g0.trans (Gr.cell (ms := []) (o := .lst (List.replicate ((a : Int)).toNat [V.non]).flatten) g0.bh hq)
      have hq0 := g0.fresh hq
      have hB : B q = none := bfresh hS hq0
      walk_at "go"
      refine i_setL upd_same (j := 0) (by rw [show ((List.replicate ((a : Int)).toNat [V.non]).flatten).length = a by simp]; show ixN a 0 = some 0; unfold ixN; rw [if_pos (by omega)]; simp; omega) ?_
      rw [start_oV]
      have g2 := g1.setN (o := .lst ((Us.startT a).map oV)) hq0 hB
      have hkeep0 : ∀ H', Gr [] B H B H' → H' p = H p := fun H' g => by rw [hp]; exact g.keep _ _ (by simp) hp
      walk_at "go"
      refine i_while (fun m σ H' => ∃ (g : Bool) (f : List (Option Nat)) (r1 r2 r3 r4 : Option V), σ = [some (.ref p), some (.int (a : Int)), some (.ref q), some (.bl g), r1, r2, r3, r4] ∧ Gr [] B H B H' ∧ H' q = some (.lst (f.map oV)) ∧ TabOk (a :: rs) a f ∧ (g = true → ∃ k, m = k + 1 ∧ Lea (a :: rs) a k f fin) ∧ (g = false → f = fin)) (steps + 1) ⟨true, Us.startT a, none, none, none, none, rfl, g2, upd_same, start_ok ha, fun _ => ⟨steps, rfl, hlea⟩, fun z => nomatch z⟩ ?_
      rintro m σ H1 ⟨gr, f, r1, r2, r3, r4, rfl, g3, hf, tok, hgo, hst⟩
      walk_at "go"
      cases gr with
      | false =>
        rw [hst rfl] at hf
        refine iteF ?_
        walk_at "go"
        exact k _ _ _ (g3.keepN hq0 hf hB) upd_same
      | true =>
        obtain ⟨kk, rfl, lea⟩ := hgo rfl
        refine iteT (i_turn ?_)
        walk_at "go"
        refine ⟨(a : Int), rfl, by omega, by omega, for_range (lo := 0) (n := ((a : Int)).toNat) (fun i σ H' => ∃ (st : List (Option Nat) × Bool) (r1 r2 r3 r4 : Option V), st = (List.range i).foldl (restStep (a :: rs) a) (f, false) ∧ σ = [some (.ref p), some (.int (a : Int)), some (.ref q), some (.bl st.2), r1, r2, r3, r4] ∧ Gr [] B H B H' ∧ H' q = some (.lst (st.1.map oV)))
          ⟨(f, false), r1, r2, r3, r4, rfl, rfl, g3, hf⟩ ?_ ?_⟩
        · rintro i σ H2 hi ⟨st, s1, s2, s3, s4, est, rfl, g4, hq2⟩
          have hi' : i < a := by omega
          have tok2 : TabOk (a :: rs) a st.1 := by rw [est]; exact (fold_rest ha hpos tok).ok
          have esucc : (List.range (i + 1)).foldl (restStep (a :: rs) a) (f, false) = restStep (a :: rs) a st i := by rw [List.range_succ, List.foldl_append, est]; rfl
          have ei : (0 : Int) + (i : Int) = (i : Int) := by omega
          have hj := oV_at (f := st.1) (j := i) (by rw [tok2.len]; exact hi')
          walk_at "go"
          refine i_ixL (SqL.of hq2) (by rw [ei]; exact atI_nat hj) ?_
          cases hoi : oget st.1 i with
          | none =>
            walk_at "go"
            refine ⟨_, some (.int ((0 : Int) + (i : Int))), s2, s3, s4, esucc.symm, ?_, g4, ?_⟩
            · unfold restStep; rw [hoi]; rfl
            · unfold restStep; rw [hoi]; exact hq2
          | some b =>
            walk_at "go"
            refine iteT ?_
            walk_at "go"
            have erest : restStep (a :: rs) a st i = (a :: rs).foldl (mkStep a i) st := by unfold restStep; rw [hoi]
            rw [erest] at esucc
            refine ⟨p, rfl, ⟨_, SqL.of (hkeep0 _ g4 ▸ hp)⟩, for_list (K := K) (a := p) (xs := (a :: rs).map nV) (fun j σ H' => ∃ (su : List (Option Nat) × Bool) (r2 r3 r4 : Option V), su = ((a :: rs).take j).foldl (mkStep a i) st ∧ σ = [some (.ref p), some (.int (a : Int)), some (.ref q), some (.bl su.2), some (.int (i : Int)), r2, r3, r4] ∧ Gr [] B H B H' ∧ H' q = some (.lst (su.1.map oV)))
              ⟨st, s2, s3, s4, rfl, by rw [ei]; rfl, g4, hq2⟩ (fun j σ H' _ h => SqL.of (hkeep0 _ h.choose_spec.choose_spec.choose_spec.choose_spec.2.2.1 ▸ hp)) ?_ ?_⟩
            · rintro j x σ H3 hx ⟨su, t2, t3, t4, esu, rfl, g5, hq3⟩
              obtain ⟨m, hm, rfl⟩ : ∃ m, (a :: rs)[j]? = some m ∧ x = nV m := by
                rw [List.getElem?_map] at hx
                cases e : (a :: rs)[j]? with
                | none => rw [e] at hx; cases hx
                | some m => rw [e] at hx; exact ⟨m, rfl, (Option.some.inj hx).symm⟩
              have hmm : m ∈ a :: rs := List.mem_of_getElem? hm
              have hst2 : Step (a :: rs) a st su := by rw [esu]; exact fold_mk ha hpos (fun m hm => List.mem_of_mem_take hm) tok2
              have esu1 : ((a :: rs).take (j + 1)).foldl (mkStep a i) st = mkStep a i su m := by rw [List.take_add_one, hm, List.foldl_append, ← esu]; rfl
              obtain ⟨b', hb'⟩ := oget_low hst2.low hoi
              have hj2 := oV_at (f := su.1) (j := i) (by rw [hst2.ok.len]; exact hi')
              rw [hb'] at hj2
              have hj2' : (su.1.map oV)[i]? = some (V.int (b' : Int)) := hj2
              walk_at "go"
              refine i_ixL (SqL.of hq3) (atI_nat hj2') ?_
              walk_at "go"
              have el : (b' : Int) + (m : Int) = ((b' + m : Nat) : Int) := by omega
              have em : ((b' : Int) + (m : Int)) % (a : Int) = (((b' + m) % a : Nat) : Int) := by rw [el]; exact (Int.natCast_emod _ _).symm
              have hlt : (b' + m) % a < su.1.length := by rw [hst2.ok.len]; exact Nat.mod_lt _ ha
              have hj3 := oV_at (f := su.1) hlt
              refine i_rI (by show (0 : Int) < (a : Int); omega) ?_
              refine i_ixL (SqL.of hq3) (by rw [em]; exact atI_nat hj3) ?_
              have hix : ixN (su.1.map oV).length (((b' : Int) + (m : Int)) % (a : Int)) = some ((b' + m) % a) := by
                rw [em, List.length_map]
                unfold ixN
                rw [if_pos (by omega), if_pos (by omega)]
                rfl
              have nx : ∀ r, mkStep a i su m = (su.1.set ((b' + m) % a) (some (b' + m)), true) → ∃ (su' : List (Option Nat) × Bool) (r2 r3 r4 : Option V), su' = ((a :: rs).take (j + 1)).foldl (mkStep a i) st ∧ [some (.ref p), some (.int (a : Int)), some (.ref q), some (.bl true), some (.int (i : Int)), some (nV m), some (.int ((b' : Int) + (m : Int))), r] = [some (.ref p), some (.int (a : Int)), some (.ref q), some (.bl su'.2), some (.int (i : Int)), r2, r3, r4] ∧ Gr [] B H B (upd H3 q (.lst ((su.1.map oV).set ((b' + m) % a) (.int ((b' : Int) + (m : Int)))))) ∧ (upd H3 q (.lst ((su.1.map oV).set ((b' + m) % a) (.int ((b' : Int) + (m : Int)))))) q = some (.lst (su'.1.map oV)) := fun r emk =>
                ⟨_, _, _, _, rfl, by rw [esu1, emk], g5.setN hq0 hB, by rw [esu1, emk, upd_same, el, set_oV]⟩
              have same : ∀ r, mkStep a i su m = su → ∃ (su' : List (Option Nat) × Bool) (r2 r3 r4 : Option V), su' = ((a :: rs).take (j + 1)).foldl (mkStep a i) st ∧ [some (.ref p), some (.int (a : Int)), some (.ref q), some (.bl su.2), some (.int (i : Int)), some (nV m), some (.int ((b' : Int) + (m : Int))), r] = [some (.ref p), some (.int (a : Int)), some (.ref q), some (.bl su'.2), some (.int (i : Int)), r2, r3, r4] ∧ Gr [] B H B H3 ∧ H3 q = some (.lst (su'.1.map oV)) := fun r emk =>
                ⟨_, _, _, _, rfl, by rw [esu1, emk], g5, by rw [esu1, emk, hq3]⟩
              cases ho : oget su.1 ((b' + m) % a) with
              | none =>
                have emk : mkStep a i su m = (su.1.set ((b' + m) % a) (some (b' + m)), true) := by unfold mkStep; rw [hb']; dsimp only; rw [ho]
                walk_at "go"
                refine iteT ?_
                walk_at "go"
                refine i_rI (by show (0 : Int) < (a : Int); omega) ?_
                refine i_setL hq3 hix ?_
                walk_at "go"
                exact nx _ emk
              | some o =>
                walk_at "go"
                refine iteF ?_
                walk_at "go"
                refine i_rI0 (a := (b' : Int) + (m : Int)) (b := (o : Int)) ?_
                walk_at "go"
                refine i_case (fun c => ?_) (fun c => ?_)
                · have c' : b' + m < o := by have := of_decide_eq_true c; omega
                  have emk : mkStep a i su m = (su.1.set ((b' + m) % a) (some (b' + m)), true) := by unfold mkStep; rw [hb']; dsimp only; rw [ho]; dsimp only; rw [if_pos c']
                  walk_at "go"
                  refine i_rI (by show (0 : Int) < (a : Int); omega) ?_
                  refine i_setL hq3 hix ?_
                  walk_at "go"
                  exact nx _ emk
                · have c' : ¬ b' + m < o := by have := of_decide_eq_false c; omega
                  have emk : mkStep a i su m = su := by unfold mkStep; rw [hb']; dsimp only; rw [ho]; dsimp only; rw [if_neg c']
                  walk_at "go"
                  exact same _ emk
            · rintro σ H3 ⟨su, t2, t3, t4, esu, rfl, g5, hq3⟩
              walk_at "go"
              rw [show ((a :: rs).map nV).length = (a :: rs).length by simp, List.take_length] at esu
              exact ⟨su, _, _, _, _, by rw [esucc, esu], rfl, g5, hq3⟩
        · rintro σ H2 ⟨st, s1, s2, s3, s4, est, rfl, g4, hq2⟩
          have ea : ((a : Int)).toNat = a := by omega
          rw [ea] at est
          have est' : sweep (a :: rs) a f = st := est.symm
          have stp := sweep_step ha hpos tok
          rw [est'] at stp
          walk_at "go"
          cases lea with
          | stop hs =>
            rw [est'] at hs
            subst hs
            exact ⟨0, by omega, false, fin, _, _, _, _, rfl, g4, hq2, stp.ok, (fun z => nomatch z), fun _ => rfl⟩
          | go hs r =>
            rw [est'] at hs
            subst hs
            exact ⟨_, Nat.lt_succ_self _, true, _, _, _, _, _, rfl, g4, hq2, stp.ok, fun _ => ⟨_, rfl, r⟩, fun z => nomatch z⟩
    · refine ⟨_, PSs.nox (pss_cons (ps_set (i := 1) sc_leasts_of.nd rfl (Or.inl rfl) (pe_ix ix_tup (pv 0) pe_int (fun _ _ => rfl)))
    (pss_cons (ps_set (i := 2) sc_leasts_of.nd rfl (Or.inl rfl) (pe_op op_rep (pe_lst (pa_cons pe_non pa_nil)) (pv 1)))
    (pss_cons (ps_asg pe_int (pg_sub (pv 2) pe_int set_list))
    (pss_cons (ps_set (i := 3) sc_leasts_of.nd rfl (Or.inl rfl) pe_bl)
    (pss_cons (ps_while PassesOwn.never (pt_val (pv 3))
      (pss_cons (ps_set (i := 3) sc_leasts_of.nd rfl (Or.inl rfl) pe_bl)
      (pss_one (ps_for PassesOwn.never rfl (pi_range1 (by rfl) T.f_range (pa_cons (pv 1) pa_nil)) (pg_name (i := 4) sc_leasts_of.nd rfl (Or.inl rfl))
        (pss_one (ps_if (pt_cmpR op_notNU (pe_ix ix_list (pv 2) (pv 4) (fun _ _ => rfl)) pe_non (nomark _))
          (pss_one (ps_for PassesOwn.never rfl (pi_tup (pv 0)) (pg_name (i := 5) sc_leasts_of.nd rfl (Or.inl rfl))
            (pss_cons (ps_set (i := 6) sc_leasts_of.nd rfl (Or.inl rfl) (pe_op op_add (pe_ix ix_list (pv 2) (pv 4) (fun _ _ => rfl)) (pv 5)))
            (pss_cons (ps_set (i := 7) sc_leasts_of.nd rfl (Or.inl rfl) (pe_ix ix_list (pv 2) (pe_op op_mod (pv 6) (pv 1)) (fun _ _ => rfl)))
            (pss_one (ps_if (PW.pt (pw_or (pt_cmpR op_isNU (pv 7) pe_non (nomark _)) (pw_or1 (pt_cmpR op_lt (pv 6) (pv 7) (nomark _)))))
              (pss_cons (ps_asg (pv 6) (pg_sub (pv 2) (pe_op op_mod (pv 6) (pv 1)) set_list))
              (pss_one (ps_set (i := 3) sc_leasts_of.nd rfl (Or.inl rfl) pe_bl)))
              pss_nil))))))
          pss_nil))))))
    (pss_one (ps_ret (pv 2)))))))), ?_⟩
      walk_at "go"
      refine i_ixT (SqT.of hp) atI0 ?_
      walk_at "go"
      refine ⟨sz5 (by simp), fun p1 hp1 => ?_⟩
      walk_at "go"
      refine ⟨p1, _, _, rfl, rfl, upd_same, by omega, by omega, sz5 (by simp; omega), fun q hq => ?_⟩
      have g0 : Gr [] B H B (upd H p1 (.lst [.non])) := Gr.cell hS hp1
      have g1 := g0.trans (Gr.cell (ms := []) (o := .lst (List.replicate ((a : Int)).toNat [V.non]).flatten) g0.bh hq)
      have hq0 := g0.fresh hq
      have hB : B q = none := bfresh hS hq0
      walk_at "go"
      refine i_setL upd_same (j := 0) (by rw [show ((List.replicate ((a : Int)).toNat [V.non]).flatten).length = a by simp]; show ixN a 0 = some 0; unfold ixN; rw [if_pos (by omega)]; simp; omega) ?_
      rw [start_oV]
      have g2 := g1.setN (o := .lst ((Us.startT a).map oV)) hq0 hB
      have hkeep0 : ∀ H', Gr [] B H B H' → H' p = H p := fun H' g => by rw [hp]; exact g.keep _ _ (by simp) hp
      walk_at "go"
      refine i_while (fun m σ H' => ∃ (g : Bool) (f : List (Option Nat)) (r1 r2 r3 r4 : Option V), σ = [some (.ref p), some (.int (a : Int)), some (.ref q), some (.bl g), r1, r2, r3, r4] ∧ Gr [] B H B H' ∧ H' q = some (.lst (f.map oV)) ∧ TabOk (a :: rs) a f ∧ (g = true → ∃ k, m = k + 1 ∧ Lea (a :: rs) a k f fin) ∧ (g = false → f = fin)) (steps + 1) ⟨true, Us.startT a, none, none, none, none, rfl, g2, upd_same, start_ok ha, fun _ => ⟨steps, rfl, hlea⟩, fun z => nomatch z⟩ ?_
      rintro m σ H1 ⟨gr, f, r1, r2, r3, r4, rfl, g3, hf, tok, hgo, hst⟩
      walk_at "go"
      cases gr with
      | false =>
        rw [hst rfl] at hf
        refine iteF ?_
        walk_at "go"
        exact k _ _ _ (g3.keepN hq0 hf hB) upd_same
      | true =>
        obtain ⟨kk, rfl, lea⟩ := hgo rfl
        refine iteT (i_turn ?_)
        walk_at "go"
        refine ⟨(a : Int), rfl, by omega, by omega, for_range (lo := 0) (n := ((a : Int)).toNat) (fun i σ H' => ∃ (st : List (Option Nat) × Bool) (r1 r2 r3 r4 : Option V), st = (List.range i).foldl (restStep (a :: rs) a) (f, false) ∧ σ = [some (.ref p), some (.int (a : Int)), some (.ref q), some (.bl st.2), r1, r2, r3, r4] ∧ Gr [] B H B H' ∧ H' q = some (.lst (st.1.map oV)))
          ⟨(f, false), r1, r2, r3, r4, rfl, rfl, g3, hf⟩ ?_ ?_⟩
        · rintro i σ H2 hi ⟨st, s1, s2, s3, s4, est, rfl, g4, hq2⟩
          have hi' : i < a := by omega
          have tok2 : TabOk (a :: rs) a st.1 := by rw [est]; exact (fold_rest ha hpos tok).ok
          have esucc : (List.range (i + 1)).foldl (restStep (a :: rs) a) (f, false) = restStep (a :: rs) a st i := by rw [List.range_succ, List.foldl_append, est]; rfl
          have ei : (0 : Int) + (i : Int) = (i : Int) := by omega
          have hj := oV_at (f := st.1) (j := i) (by rw [tok2.len]; exact hi')
          walk_at "go"
          refine i_ixL (SqL.of hq2) (by rw [ei]; exact atI_nat hj) ?_
          cases hoi : oget st.1 i with
          | none =>
            walk_at "go"
            refine ⟨_, some (.int ((0 : Int) + (i : Int))), s2, s3, s4, esucc.symm, ?_, g4, ?_⟩
            · unfold restStep; rw [hoi]; rfl
            · unfold restStep; rw [hoi]; exact hq2
          | some b =>
            walk_at "go"
            refine iteT ?_
            walk_at "go"
            have erest : restStep (a :: rs) a st i = (a :: rs).foldl (mkStep a i) st := by unfold restStep; rw [hoi]
            rw [erest] at esucc
            refine ⟨p, rfl, ⟨_, SqT.of (hkeep0 _ g4 ▸ hp)⟩, for_tup (K := K) (a := p) (xs := (a :: rs).map nV) (fun j σ H' => ∃ (su : List (Option Nat) × Bool) (r2 r3 r4 : Option V), su = ((a :: rs).take j).foldl (mkStep a i) st ∧ σ = [some (.ref p), some (.int (a : Int)), some (.ref q), some (.bl su.2), some (.int (i : Int)), r2, r3, r4] ∧ Gr [] B H B H' ∧ H' q = some (.lst (su.1.map oV)))
              ⟨st, s2, s3, s4, rfl, by rw [ei]; rfl, g4, hq2⟩ (fun j σ H' _ h => SqT.of (hkeep0 _ h.choose_spec.choose_spec.choose_spec.choose_spec.2.2.1 ▸ hp)) ?_ ?_⟩
            · rintro j x σ H3 hx ⟨su, t2, t3, t4, esu, rfl, g5, hq3⟩
              obtain ⟨m, hm, rfl⟩ : ∃ m, (a :: rs)[j]? = some m ∧ x = nV m := by
                rw [List.getElem?_map] at hx
                cases e : (a :: rs)[j]? with
                | none => rw [e] at hx; cases hx
                | some m => rw [e] at hx; exact ⟨m, rfl, (Option.some.inj hx).symm⟩
              have hmm : m ∈ a :: rs := List.mem_of_getElem? hm
              have hst2 : Step (a :: rs) a st su := by rw [esu]; exact fold_mk ha hpos (fun m hm => List.mem_of_mem_take hm) tok2
              have esu1 : ((a :: rs).take (j + 1)).foldl (mkStep a i) st = mkStep a i su m := by rw [List.take_add_one, hm, List.foldl_append, ← esu]; rfl
              obtain ⟨b', hb'⟩ := oget_low hst2.low hoi
              have hj2 := oV_at (f := su.1) (j := i) (by rw [hst2.ok.len]; exact hi')
              rw [hb'] at hj2
              have hj2' : (su.1.map oV)[i]? = some (V.int (b' : Int)) := hj2
              walk_at "go"
              refine i_ixL (SqL.of hq3) (atI_nat hj2') ?_
              walk_at "go"
              have el : (b' : Int) + (m : Int) = ((b' + m : Nat) : Int) := by omega
              have em : ((b' : Int) + (m : Int)) % (a : Int) = (((b' + m) % a : Nat) : Int) := by rw [el]; exact (Int.natCast_emod _ _).symm
              have hlt : (b' + m) % a < su.1.length := by rw [hst2.ok.len]; exact Nat.mod_lt _ ha
              have hj3 := oV_at (f := su.1) hlt
              refine i_rI (by show (0 : Int) < (a : Int); omega) ?_
              refine i_ixL (SqL.of hq3) (by rw [em]; exact atI_nat hj3) ?_
              have hix : ixN (su.1.map oV).length (((b' : Int) + (m : Int)) % (a : Int)) = some ((b' + m) % a) := by
                rw [em, List.length_map]
                unfold ixN
                rw [if_pos (by omega), if_pos (by omega)]
                rfl
              have nx : ∀ r, mkStep a i su m = (su.1.set ((b' + m) % a) (some (b' + m)), true) → ∃ (su' : List (Option Nat) × Bool) (r2 r3 r4 : Option V), su' = ((a :: rs).take (j + 1)).foldl (mkStep a i) st ∧ [some (.ref p), some (.int (a : Int)), some (.ref q), some (.bl true), some (.int (i : Int)), some (nV m), some (.int ((b' : Int) + (m : Int))), r] = [some (.ref p), some (.int (a : Int)), some (.ref q), some (.bl su'.2), some (.int (i : Int)), r2, r3, r4] ∧ Gr [] B H B (upd H3 q (.lst ((su.1.map oV).set ((b' + m) % a) (.int ((b' : Int) + (m : Int)))))) ∧ (upd H3 q (.lst ((su.1.map oV).set ((b' + m) % a) (.int ((b' : Int) + (m : Int)))))) q = some (.lst (su'.1.map oV)) := fun r emk =>
                ⟨_, _, _, _, rfl, by rw [esu1, emk], g5.setN hq0 hB, by rw [esu1, emk, upd_same, el, set_oV]⟩
              have same : ∀ r, mkStep a i su m = su → ∃ (su' : List (Option Nat) × Bool) (r2 r3 r4 : Option V), su' = ((a :: rs).take (j + 1)).foldl (mkStep a i) st ∧ [some (.ref p), some (.int (a : Int)), some (.ref q), some (.bl su.2), some (.int (i : Int)), some (nV m), some (.int ((b' : Int) + (m : Int))), r] = [some (.ref p), some (.int (a : Int)), some (.ref q), some (.bl su'.2), some (.int (i : Int)), r2, r3, r4] ∧ Gr [] B H B H3 ∧ H3 q = some (.lst (su'.1.map oV)) := fun r emk =>
                ⟨_, _, _, _, rfl, by rw [esu1, emk], g5, by rw [esu1, emk, hq3]⟩
              cases ho : oget su.1 ((b' + m) % a) with
              | none =>
                have emk : mkStep a i su m = (su.1.set ((b' + m) % a) (some (b' + m)), true) := by unfold mkStep; rw [hb']; dsimp only; rw [ho]
                walk_at "go"
                refine iteT ?_
                walk_at "go"
                refine i_rI (by show (0 : Int) < (a : Int); omega) ?_
                refine i_setL hq3 hix ?_
                walk_at "go"
                exact nx _ emk
              | some o =>
                walk_at "go"
                refine iteF ?_
                walk_at "go"
                refine i_rI0 (a := (b' : Int) + (m : Int)) (b := (o : Int)) ?_
                walk_at "go"
                refine i_case (fun c => ?_) (fun c => ?_)
                · have c' : b' + m < o := by have := of_decide_eq_true c; omega
                  have emk : mkStep a i su m = (su.1.set ((b' + m) % a) (some (b' + m)), true) := by unfold mkStep; rw [hb']; dsimp only; rw [ho]; dsimp only; rw [if_pos c']
                  walk_at "go"
                  refine i_rI (by show (0 : Int) < (a : Int); omega) ?_
                  refine i_setL hq3 hix ?_
                  walk_at "go"
                  exact nx _ emk
                · have c' : ¬ b' + m < o := by have := of_decide_eq_false c; omega
                  have emk : mkStep a i su m = su := by unfold mkStep; rw [hb']; dsimp only; rw [ho]; dsimp only; rw [if_neg c']
                  walk_at "go"
                  exact same _ emk
            · rintro σ H3 ⟨su, t2, t3, t4, esu, rfl, g5, hq3⟩
              walk_at "go"
              rw [show ((a :: rs).map nV).length = (a :: rs).length by simp, List.take_length] at esu
              exact ⟨su, _, _, _, _, by rw [esucc, esu], rfl, g5, hq3⟩
        · rintro σ H2 ⟨st, s1, s2, s3, s4, est, rfl, g4, hq2⟩
          have ea : ((a : Int)).toNat = a := by omega
          rw [ea] at est
          have est' : sweep (a :: rs) a f = st := est.symm
          have stp := sweep_step ha hpos tok
          rw [est'] at stp
          walk_at "go"
          cases lea with
          | stop hs =>
            rw [est'] at hs
            subst hs
            exact ⟨0, by omega, false, fin, _, _, _, _, rfl, g4, hq2, stp.ok, (fun z => nomatch z), fun _ => rfl⟩
          | go hs r =>
            rw [est'] at hs
            subst hs
            exact ⟨_, Nat.lt_succ_self _, true, _, _, _, _, _, rfl, g4, hq2, stp.ok, fun _ => ⟨_, rfl, r⟩, fun z => nomatch z⟩
    
end

end K01
set_option maxRecDepth 100000
set_option maxHeartbeats 2000000
namespace K01
open PySem PySem.Spec PyProof.Rows L2 Us
def Asc (ms l : List Nat) : Prop := l.Pairwise (· < ·) ∧ ∀ x, x ∈ l ↔ x ∈ ms
def spNeeded (K : PySem.W.Frag) : Sp := fun vs H Q _ => ∃ (B : Hp) (p : Addr) (ms : List Nat), vs = [.ref p] ∧ Same B H ∧ H p = some (.tup (ms.map nV)) ∧ ms.length ≤ 60 ∧ (∀ m ∈ ms, 0 < m ∧ m ≤ 1000) ∧
  ∀ B' H' q l, Gr [] B H B' H' → Asc ms l → B' q = some (.tup ((need l).map nV)) → Q (.ref q) H'
theorem nV_ints {ns : List Int} {ms : List Nat} (h : ∀ k : Int, k ∈ ns ↔ k ∈ ms.map (fun m : Nat => (m : Int))) : ∃ l : List Nat, ns = l.map (fun m : Nat => (m : Int)) ∧ ∀ x, x ∈ l ↔ x ∈ ms := by
  refine ⟨ns.map Int.toNat, ?_, fun x => ?_⟩
  · rw [List.map_map]
    have e : ∀ k ∈ ns, ((fun m : Nat => (m : Int)) ∘ Int.toNat) k = k := fun k hk => by
      obtain ⟨m, _, rfl⟩ := List.mem_map.mp ((h k).mp hk)
      show (((m : Int).toNat : Nat) : Int) = _
      omega
    rw [List.map_congr_left e]; simp
  · rw [List.mem_map]
    constructor
    · rintro ⟨k, hk, rfl⟩
      obtain ⟨m, hm, rfl⟩ := List.mem_map.mp ((h k).mp hk)
      simpa using hm
    · intro hx
      exact ⟨(x : Int), (h _).mpr (List.mem_map.mpr ⟨x, hx, rfl⟩), by simp⟩
theorem need_len : ∀ l : List Nat, (need l).length ≤ l.length := by
  intro l
  refine snocInd (P := fun l => (need l).length ≤ l.length) (Nat.le_refl _) (fun l a ih => ?_) _ l rfl
  rw [need_snoc]
  unfold needStep
  split <;> simp <;> omega
theorem gen_nil {m : Nat} (h : 0 < m) : ¬ Gen [] m := fun g => by
  cases g with
  | zero => omega
  | add hm _ => cases hm
theorem lea_len {ms : List Nat} {f : List (Option Nat)} (h : LeaT ms f) (hpos : ∀ m ∈ ms, 0 < m) : 0 < f.length := by
  cases ms with
  | nil => obtain ⟨a, r, e, _⟩ := h; cases e
  | cons a r =>
    rw [(h.tab hpos).ok.len]
    exact hpos a (List.mem_cons_self ..)
section
variable {P : Program} {w : World} {K : PySem.W.Frag} {mg : Str → Option Value} {base : Heap}
theorem ok_needed (T : Txt K mg) (Dis_sum : DefOk P w K mg base CX0 1 "is_sum" p_is_sum (spIsSum K)) (Dleasts_of : DefOk P w K mg base CX0 1 "leasts_of" p_leasts_of (spLeasts K)) : DefOk P w K mg base CX0 2 "needed_makers" p_needed_makers (spNeeded K) := by
  refine T.d_needed_makers.ok sc_needed_makers (fun _ _ _ _ _ _ us hl => match us, hl with | [_], _ => rfl) (fun vs H Q E h => ?_) (fun f cdv A outer s H vs Q E hr h => ?_)
  · obtain ⟨B, p, ms, rfl, _⟩ := h
    rfl
  · obtain ⟨B, p, ms, rfl, hS, hp, hz, hpos, k⟩ := h
    refine ⟨_, PSs.nox (pss_cons (ps_set (i := 1) sc_needed_makers.nd rfl (Or.inl rfl) (pe_lst pa_nil))
    (pss_cons (ps_set (i := 2) sc_needed_makers.nd rfl (Or.inl rfl) (pe_lst pa_nil))
    (pss_cons (ps_for PassesOwn.never rfl (pi_list (pe_callB (cr_sortedSet rfl) (by rfl) T.f_sorted (by decide +kernel) (pa_cons (pe_callTy (call_setTI rfl) (by rfl) T.f_set (by decide +kernel) (pa_cons (pv 0) pa_nil)) pa_nil))) (pg_name (i := 3) sc_needed_makers.nd rfl (Or.inl rfl))
      (pss_one (ps_if (PW.pt (pw_or (pt_cmpR op_eq (pe_callB call_lenU (by rfl) T.f_len (by decide +kernel) (pa_cons (pv 1) pa_nil)) pe_int (nomark _)) (pw_or1 (pt_not (pt_val (pe_callD Dis_sum (hr.mono (by first | decide | omega)) rfl pass0 (pa_cons (pv 2) (pa_cons (pv 3) pa_nil))))))))
        (pss_cons (ps_expr (pe_bm PySem.F.plainAttrs_list PySem.F.slot_list_append PySem.F.type_list_append mt_append (pv 1) (pa_cons (pv 3) pa_nil)))
        (pss_one (ps_set (i := 2) sc_needed_makers.nd rfl (Or.inl rfl) (pe_callD Dleasts_of (hr.mono (by first | decide | omega)) rfl pass0 (pa_cons (pv 1) pa_nil)))))
        pss_nil)))
    (pss_one (ps_ret (pe_callTy call_tupU (by rfl) T.f_tuple (by decide +kernel) (pa_cons (pv 1) pa_nil))))))), ?_⟩
    walk_at "go"
    refine ⟨sz5 (by simp), fun fo hfo => ?_⟩
    walk_at "go"
    refine ⟨sz5 (by simp), fun le0 hle => ?_⟩
    walk_at "go"
    have s1 : Gr [] B H B (upd H fo (.lst [])) := Gr.cell hS hfo
    have o1 := Own.cell (o := .lst []) hS hfo
    have s2 : Gr [] B (upd H fo (.lst [])) _ _ := Gr.new (o := .lst []) s1.bh hle
    have o2 := o1.up s2
    have g2 := s1.trans s2
    have hp2 := g2.keep _ _ (by simp) hp
    have em : ms.map nV = (ms.map (fun m : Nat => (m : Int))).map V.int := by rw [List.map_map]; rfl
    rw [em] at hp2
    refine ⟨p, _, rfl, SqT.of hp2, by simp; omega, fun q c hq hc => ?_⟩
    have s3 : Gr [] _ _ _ _ := Gr.cell (ms := []) (o := SetO w q (fun j => decide (j ∈ ms.map (fun m : Nat => (m : Int)))) c) g2.bh hq
    have o3 := o2.up s3
    have g3 := g2.trans s3
    have hc' : c < 64 := by have : c ≤ ms.length := by simpa using hc
                            omega
    refine ⟨q, _, c, rfl, upd_same, hc', fun ns r hsort hmem hcount hr' => ?_⟩
    obtain ⟨l, rfl, hl⟩ := nV_ints (ms := ms) fun j => (hmem j).trans (by simp)
    have hasc : Asc ms l := ⟨by
      rw [List.pairwise_map] at hsort
      exact hsort.imp (fun h => by omega), hl⟩
    have el : (l.map (fun m : Nat => (m : Int))).map V.int = l.map nV := by rw [List.map_map]; rfl
    rw [el]
    have s4 : Gr [] _ _ _ _ := Gr.new (ms := []) (o := .lst (l.map nV)) g3.bh hr'
    have o4 := o3.up s4
    have g4 := g3.trans s4
    have hlpos : ∀ m ∈ l, 0 < m ∧ m ≤ 1000 := fun m hm => hpos m ((hl m).mp hm)
    have hr4 : (upd (upd B le0 (.lst [])) r (.lst (l.map nV))) r = some (.lst (l.map nV)) := upd_same
    have hle4 : (upd (upd B le0 (.lst [])) r (.lst (l.map nV))) le0 = some (.lst []) := by
      have a : upd B le0 (.lst []) le0 = some (.lst []) := upd_same
      exact s4.bb _ _ a
    have hlen : l.length ≤ 60 := by
      have a : l.length = c := by simpa using hcount
      have b : c ≤ ms.length := by simpa using hc
      omega
    refine ⟨r, rfl, ⟨_, SqL.of upd_same⟩, for_list (K := K) (a := r) (xs := l.map nV) (fun i σ H' => ∃ (B' : Hp) (le : Addr) (f : List (Option Nat)) (mk : Option V), σ = [some (.ref p), some (.ref fo), some (.ref le), mk] ∧ Gr [] B H B' H' ∧ Own B' H' fo (.lst ((need (l.take i)).map nV)) ∧ B' le = some (.lst (f.map oV)) ∧ B' r = some (.lst (l.map nV)) ∧ ((need (l.take i) = [] ∧ f = []) ∨ (need (l.take i) ≠ [] ∧ LeaT (need (l.take i)) f)))
      ⟨_, le0, [], none, rfl, g4, o4, hle4, hr4, .inl ⟨rfl, rfl⟩⟩ (fun i σ H' _ h => by obtain ⟨B', le, f, mk, _, g, _, _, hr, _⟩ := h; exact SqL.of (g.bh _ _ hr)) ?_ ?_⟩
    · rintro i x σ H1 hx ⟨B1, le, f, mk, rfl, g5, o5, hle5, hr5, hf⟩
      obtain ⟨m, hm, rfl⟩ : ∃ m, l[i]? = some m ∧ x = nV m := by
        rw [List.getElem?_map] at hx
        cases e : l[i]? with
        | none => rw [e] at hx; cases hx
        | some m => rw [e] at hx; exact ⟨m, rfl, (Option.some.inj hx).symm⟩
      have hmpos := hlpos m (List.mem_of_getElem? hm)
      have esucc : need (l.take (i + 1)) = needStep (need (l.take i)) m := by rw [List.take_add_one, hm]; exact need_snoc _ _
      have hi : i < l.length := (List.getElem?_eq_some_iff.mp hm).1
      generalize hacc : need (l.take i) = acc at *
      have hsub : ∀ y ∈ acc ++ [m], y ∈ l := fun y hy => by
        rcases List.mem_append.mp hy with hy | hy
        · exact List.mem_of_mem_take (need_sub _ y (hacc ▸ hy))
        · rw [List.mem_singleton.mp hy]; exact List.mem_of_getElem? hm
      have hapos : ∀ y ∈ acc ++ [m], 0 < y := fun y hy => (hlpos y (hsub y hy)).1
      have hfo0 : H fo = none := hfo
      walk_at "go"
      refine i_lenL (SqL.of o5.2) ?_
      walk_at "go"
      -- the maker is put behind
      have put : ¬ Gen acc m → tSeq (tDrop (tBM K "list" rAppend (tVar 1) (tCons (tVar 3) tNil))) (tSeq (tAsg (tCall (spLeasts K) [] E0 (tCons (tVar 1) tNil)) (gName 2)) tNext) { nx := fun σ H' => ∃ (B' : Hp) (le : Addr) (f : List (Option Nat)) (mk : Option V), σ = [some (.ref p), some (.ref fo), some (.ref le), mk] ∧ Gr [] B H B' H' ∧ Own B' H' fo (.lst ((need (l.take (i + 1))).map nV)) ∧ B' le = some (.lst (f.map oV)) ∧ B' r = some (.lst (l.map nV)) ∧ ((need (l.take (i + 1)) = [] ∧ f = []) ∨ (need (l.take (i + 1)) ≠ [] ∧ LeaT (need (l.take (i + 1))) f)), rt := Q } [some (.ref p), some (.ref fo), some (.ref le), some (nV m)] H1 := fun ng => by
        have hacl : acc.length ≤ 60 := by
          have a : acc.length ≤ (l.take i).length := hacc ▸ need_len _
          rw [List.length_take] at a
          omega
        walk_at "go"
        refine ⟨tyL o5.2, ?_⟩
        walk_at "go"
        refine i_app o5.2 (sz5' (by simp; omega)) ?_
        have eacc : acc.map nV ++ [nV m] = (acc ++ [m]).map nV := by simp
        rw [eacc]
        have g6 := g5.put (o := .lst (acc.map nV)) (u := .lst ((acc ++ [m]).map nV)) hfo0 o5
        have o6 := o5.put (u := .lst ((acc ++ [m]).map nV))
        obtain ⟨f', hf'⟩ := leaT_ex (ms := acc ++ [m]) (by simp) hapos
        walk_at "go"
        refine ⟨B1, fo, acc ++ [m], f', rfl, g6.bh, .inl o6.2, hapos, by simp; omega, fun y hy => (hlpos y (hsub y hy)).2, hf', fun B2 H2 q2 s7 hq2 => ?_⟩
        walk_at "go"
        have en : need (l.take (i + 1)) = acc ++ [m] := by rw [esucc]; unfold needStep; rw [if_neg ng]
        refine ⟨B2, q2, f', _, rfl, g6.trans s7, ?_, hq2, s7.bb _ _ hr5, .inr ⟨by rw [en]; simp, by rw [en]; exact hf'⟩⟩
        rw [en]
        exact o6.up s7
      rcases hf with ⟨rfl, rfl⟩ | ⟨hne, hf⟩
      · refine iteT ?_
        exact put (gen_nil hmpos.1)
      · have hl0 : acc.length ≠ 0 := fun z => hne (List.length_eq_zero_iff.mp z)
        rw [dI, decide_eq_false (by simp; omega)]
        refine iteF ?_
        walk_at "go"
        have hap : ∀ y ∈ acc, 0 < y := fun y hy => hapos y (List.mem_append_left _ hy)
        refine ⟨le, f, m, rfl, g5.bh _ _ hle5, lea_len hf hap, ?_⟩
        have hs := hf.sum hap m
        cases hb : isSumB f m with
        | true =>
          have en : need (l.take (i + 1)) = acc := by rw [esucc]; unfold needStep; rw [if_pos (hs.mp hb)]
          walk_at "go"
          refine ⟨B1, le, f, _, rfl, g5, by rw [en]; exact o5, hle5, hr5, .inr ⟨by rw [en]; exact hne, by rw [en]; exact hf⟩⟩
        | false =>
          refine i_bl ?_
          exact put fun g => by rw [hs.mpr g] at hb; cases hb
    · rintro σ H1 ⟨B1, le, f, mk, rfl, g5, o5, hle5, hr5, hf⟩
      rw [show (l.map nV).length = l.length by simp, List.take_length] at o5
      walk_at "go"
      refine i_tupL (SqL.of o5.2) fun z hz' => ?_
      exact k _ _ z l (g5.trans (Gr.new g5.bh hz')) hasc upd_same
end

end K01
set_option maxRecDepth 100000
set_option maxHeartbeats 2000000
namespace K01
open PySem PySem.Spec PyProof.Rows L2 Us
/-! ### lots -/
def okI : V → Bool
  | .int i => decide (1 ≤ i) && decide (i ≤ 12)
  | _ => false
def posI : V → Bool
  | .int i => decide (0 < i)
  | _ => false
def gtI : V → Bool
  | .int i => decide (12 < i)
  | _ => false
def tupOf (B : Hp) (v : V) : Option (List V) := match v with
  | .ref p => (match B p with
    | some (.tup us) => some us
    | _ => none)
  | _ => none
theorem tupOf_tup {B : Hp} {p : Addr} {us : List V} (h : B p = some (.tup us)) : tupOf B (.ref p) = some us := by unfold tupOf; dsimp only; rw [h]
theorem tupOf_no {K : PySem.W.Frag} {B : Hp} {v : V} (sh : Sh K B v) (h : shB B v "tuple" = false) : tupOf B v = none := by
  cases sh with
  | tup h' => rw [shB_tup h'] at h; cases h
  | lst h' => unfold tupOf; dsimp only; rw [h']
  | dct h' => unfold tupOf; dsimp only; rw [h']
  | ins h' c => unfold tupOf; dsimp only; rw [h']
  | _ => rfl
theorem tup_yes {K : PySem.W.Frag} {B : Hp} {v : V} (sh : Sh K B v) (h : shB B v "tuple" = true) : ∃ p us, v = .ref p ∧ B p = some (.tup us) := by
  cases sh with
  | tup h' => exact ⟨_, _, rfl, h'⟩
  | lst h' => rw [shB_lst h'] at h; cases h
  | dct h' => rw [shB_dct h'] at h; cases h
  | ins h' c => rw [shB_ins h'] at h; cases h
  | _ => cases h
/-- a thing handed as makers: it and its items are of known shape -/
def Things (K : PySem.W.Frag) (B : Hp) (v : V) : Prop := Sh K B v ∧ ∀ us, tupOf B v = some us → us.length ≤ 1000 ∧ ∀ u ∈ us, Sh K B u
theorem Things.mono {K : PySem.W.Frag} {B B' : Hp} {v : V} (s : Same B B') (h : Things K B v) : Things K B' v := by
  refine ⟨h.1.mono s, fun us e => ?_⟩
  obtain ⟨p, rfl, hp⟩ : ∃ p, v = .ref p ∧ B' p = some (.tup us) := by
    unfold tupOf at e
    split at e
    · split at e
      · cases e; exact ⟨_, rfl, by assumption⟩
      · cases e
    · cases e
  cases h.1 with
  | tup h' =>
    have := s _ _ h'
    rw [hp] at this
    cases this
    obtain ⟨a, b⟩ := h.2 us (tupOf_tup h')
    exact ⟨a, fun u hu => (b u hu).mono s⟩
  | lst h' => have := s _ _ h'; rw [hp] at this; cases this
  | dct h' => have := s _ _ h'; rw [hp] at this; cases this
  | ins h' c => have := s _ _ h'; rw [hp] at this; cases this
theorem tupOf_mono {K : PySem.W.Frag} {B B' : Hp} {v : V} (s : Same B B') (sh : Sh K B v) : tupOf B' v = tupOf B v := by
  cases sh with
  | tup h => rw [tupOf_tup h, tupOf_tup (s _ _ h)]
  | lst h => unfold tupOf; dsimp only; rw [h, s _ _ h]
  | dct h => unfold tupOf; dsimp only; rw [h, s _ _ h]
  | ins h c => unfold tupOf; dsimp only; rw [h, s _ _ h]
  | _ => rfl
def areB (B : Hp) (v : V) : Bool := match tupOf B v with
  | some us => us.all okI
  | none => false
def spAre (K : PySem.W.Frag) : Sp := fun vs H Q _ => ∃ B v, vs = [v, .int 12] ∧ Same B H ∧ Things K B v ∧ ∀ H', Gr [] B H B H' → Q (.bl (areB B v)) H'
theorem posI_int {x : V} (h : posI x = true) : ∃ i : Int, x = .int i ∧ 0 < i := by
  cases x with
  | int i => exact ⟨i, rfl, of_decide_eq_true h⟩
  | _ => cases h
theorem okI_eq (x : V) : okI x = (posI x && !gtI x) := by
  cases x with
  | int i =>
    show (decide (1 ≤ i) && decide (i ≤ 12)) = (decide (0 < i) && !decide (12 < i))
    by_cases h1 : 0 < i <;> by_cases h2 : 12 < i <;> simp [h1, h2] <;> omega
  | _ => rfl
theorem all_okI (us : List V) : us.all okI = (us.all posI && !us.any gtI) := by
  induction us with
  | nil => rfl
  | cons a us ih =>
    rw [List.all_cons, List.all_cons, List.any_cons, ih, okI_eq]
    cases posI a <;> cases gtI a <;> simp
section
variable {P : Program} {w : World} {K : PySem.W.Frag} {mg : Str → Option Value} {base : Heap}
theorem ok_are (T : Txt K mg) (Dis_integer : DefOk P w K mg base CX0 1 "is_integer" p_is_integer (spIsInt K)) : DefOk P w K mg base CX0 2 "are_makers" p_are_makers (spAre K) := by
  refine T.d_are_makers.ok sc_are_makers (fun _ _ _ _ _ _ us hl => match us, hl with | [_, _], _ => rfl) (fun vs H Q E h => ?_) (fun f cdv A outer s H vs Q E hr h => ?_)
  · obtain ⟨B, v, rfl, _⟩ := h
    rfl
  · obtain ⟨B, v, rfl, hS, ht, k⟩ := h
    refine ⟨_, PSs.nox (pss_cons (ps_if (PW.pt (pw_or (pt_not (pt_val (pe_callB call_isi (by rfl) T.f_isinstance (by decide +kernel) (pa_cons (pv 0) (pa_cons (pe_bltn (v := .ty "tuple") (by rfl) T.f_tuple (by decide +kernel) rfl) pa_nil))))) (pw_or1 (pt_not (pt_val (pe_callB (cr_all rfl) (by rfl) T.f_all (by decide +kernel) (pa_cons (pe_lc (own := [("maker", 2)]) (g := gName 2) (tt := tYes) rfl sc_are_makers.nd (pi_tup (pv 0)) (blkOk_by (own := [("maker", 2)]) (N := n_are_makers) (sc := defScope s_are_makers) (by decide +kernel)) (fun _ _ _ _ _ => (pg_name (i := 2) sc_are_makers.nd rfl (Or.inl rfl))) (fun _ _ _ _ _ => pts_nil) (fun _ _ _ _ _ => (pe_and (pe_callD Dis_integer (hr.mono (by first | decide | omega)) rfl pass0 (pa_cons (pv 2) pa_nil)) (pe_one (pe_cmpR op_gt (pv 2) pe_int (nomark _)))))) pa_nil)))))))
      (pss_one (ps_ret pe_bl))
      pss_nil)
    (pss_one (ps_ret (pe_or (pe_cmpR op_isNU (pv 1) pe_non (nomark _)) (pe_one (pe_not (pe_callB (cr_any rfl) (by rfl) T.f_any (by decide +kernel) (pa_cons (pe_lc (own := [("maker", 2)]) (g := gName 2) (tt := tYes) rfl sc_are_makers.nd (pi_tup (pv 0)) (blkOk_by (own := [("maker", 2)]) (N := n_are_makers) (sc := defScope s_are_makers) (by decide +kernel)) (fun _ _ _ _ _ => (pg_name (i := 2) sc_are_makers.nd rfl (Or.inl rfl))) (fun _ _ _ _ _ => pts_nil) (fun _ _ _ _ _ => (pe_cmpR op_gt (pv 2) (pv 1) (nomark _)))) pa_nil)))))))), ?_⟩
    have sh := ht.1
    walk_at "go"
    cases hT : shB B v "tuple" with
    | false =>
      have e : areB B v = false := by unfold areB; rw [tupOf_no sh hT]
      rw [e] at k
      walk_at "go"
      exact k _ (Gr.refl hS)
    | true =>
      obtain ⟨p, us, rfl, hp⟩ := tup_yes sh hT
      obtain ⟨hz, hsh⟩ := ht.2 us (tupOf_tup hp)
      have ek : areB B (.ref p) = (us.all posI && !us.any gtI) := by unfold areB; rw [tupOf_tup hp]; exact all_okI us
      rw [ek] at k
      refine iteF ?_
      walk_at "go"
      refine ⟨p, rfl, ⟨_, SqT.of (hS _ _ hp)⟩, fun D hD => lc_tup (K := K) (a := p) (xs := us) (fun i H' => Gr [] B H B H' ∧ Own B H' D (.lst ((us.take i).map fun x => V.bl (posI x)))) ⟨Gr.cell hS hD, Own.cell hS hD⟩ (fun i H' _ h => SqT.of (h.1.bh _ _ hp)) ?_ ?_⟩
      · rintro i x H1 hx ⟨g, o⟩
        have shx := hsh x (List.mem_of_getElem? hx)
        have hi : i < us.length := (List.getElem?_eq_some_iff.mp hx).1
        have fin : ∀ b, posI x = b → ∃ acc, H1 D = some (.lst acc) ∧ acc.length < sizeLine ∧ (Gr [] B H B (upd H1 D (.lst (acc ++ [.bl b]))) ∧ Own B (upd H1 D (.lst (acc ++ [.bl b]))) D (.lst ((us.take (i + 1)).map fun x => V.bl (posI x)))) := fun b hb =>
          ⟨_, o.2, sz5' (by simp; omega), g.put hD o, o.1, by rw [upd_same, List.take_add_one, hx, ← hb]; simp⟩
        walk_at "go"
        refine ⟨rfl, ?_⟩
        walk_at "go"
        refine ⟨B, x, rfl, g.bh, shx, ?_⟩
        cases x with
        | int j =>
          walk_at "go"
          refine iteT ?_
          walk_at "go"
          exact fin _ rfl
        | _ =>
          walk_at "go"
          exact fin false rfl
      · rintro H1 ⟨g, o⟩
        rw [List.take_length] at o
        walk_at "go"
        refine i_all (bs := us.map posI) (SqL.of (by rw [o.2, List.map_map]; rfl)) ?_
        rw [show (us.map posI).all id = us.all posI by rw [List.all_map]; rfl]
        cases hA : us.all posI with
        | false =>
          rw [hA] at k
          walk_at "go"
          exact k _ g
        | true =>
          rw [hA] at k
          have hall := List.all_eq_true.mp hA
          walk_at "go"
          refine ⟨p, rfl, ⟨_, SqT.of (g.bh _ _ hp)⟩, fun D' hD' => lc_tup (K := K) (a := p) (xs := us) (fun i H' => Gr [] B H B H' ∧ Own B H' D' (.lst ((us.take i).map fun x => V.bl (gtI x)))) ⟨g.trans (Gr.cell g.bh hD'), Own.cell g.bh hD'⟩ (fun i H' _ h => SqT.of (h.1.bh _ _ hp)) ?_ ?_⟩
          · rintro i x H2 hx ⟨g2, o2⟩
            obtain ⟨j, rfl, hj⟩ := posI_int (hall x (List.mem_of_getElem? hx))
            have hi : i < us.length := (List.getElem?_eq_some_iff.mp hx).1
            walk_at "go"
            refine ⟨rfl, ?_⟩
            walk_at "go"
            refine ⟨_, o2.2, sz5' (by simp; omega), g2.put (g.fresh hD') o2, o2.1, ?_⟩
            rw [upd_same, List.take_add_one, hx]; simp [gtI]
          · rintro H2 ⟨g2, o2⟩
            rw [List.take_length] at o2
            walk_at "go"
            refine i_any (bs := us.map gtI) (SqL.of (by rw [o2.2, List.map_map]; rfl)) ?_
            rw [show (us.map gtI).any id = us.any gtI by rw [List.any_map]; rfl]
            walk_at "go"
            exact k _ g2
end

end K01
set_option maxRecDepth 100000
set_option maxHeartbeats 2000000
namespace K01
open PySem PySem.Spec PyProof.Rows L2 Us
/-! ### a lot -/
abbrev LotC (K : PySem.W.Frag) : Addr := He.ga K "Lot"
def wordB : V → Bool
  | .str z => decide (z = "once") || decide (z = "loan") || decide (z = "free") || decide (z = "more")
  | _ => false
def lenB (w : V) (n : Nat) : Bool := (decide (0 < n) == decide (w = .str "more")) && decide (n ≤ 4)
/-- the part of which Lot complains -/
def lotDue (B : Hp) (w v : V) : Option Str := if wordB w = true then (match tupOf B v with
  | some us => if (us.all okI && lenB w us.length) = true then none else some "makers"
  | none => some "makers") else some "word"
/-- the fields of a lot: word, makers, table -/
structure LotF (K : PySem.W.Frag) (B : Hp) (fs : List (Str × V)) (w : Str) (nd : List Nat) (f : List (Option Nat)) : Prop where
  word : fs.lookup ("word" : Str) = some (.str w)
  mks : ∃ p, fs.lookup ("makers" : Str) = some (.ref p) ∧ B p = some (.tup (nd.map nV))
  le : ∃ l, fs.lookup ("leasts" : Str) = some (.ref l) ∧ B l = some (.lst (f.map oV))
theorem LotF.mono {K : PySem.W.Frag} {B B' : Hp} {fs : List (Str × V)} {w : Str} {nd : List Nat} {f : List (Option Nat)} (s : Same B B') (h : LotF K B fs w nd f) : LotF K B' fs w nd f := by
  obtain ⟨a, ⟨p, b1, b2⟩, l, c1, c2⟩ := h
  exact ⟨a, ⟨p, b1, s _ _ b2⟩, l, c1, s _ _ c2⟩
/-- what the word and the makers come to -/
structure LotM (w : Str) (ms nd : List Nat) (f : List (Option Nat)) : Prop where
  l : ∃ l, Asc ms l ∧ nd = need l
  more : w = "more" → LeaT nd f
  less : w ≠ "more" → f = []
/-- right words and makers -/
structure LotS (w : Str) (ms : List Nat) : Prop where
  word : wordB (.str w) = true
  ok : ∀ m ∈ ms, 0 < m ∧ m ≤ 12
  len : ms.length ≤ 4
  iff : (0 < ms.length) ↔ w = "more"
def spKeep (K : PySem.W.Frag) : Sp := fun vs H Q _ => ∃ (B : Hp) (x dx p : Addr) (w : Str) (ms : List Nat), vs = [.ref x, .str w, .ref p] ∧ Same B H ∧ Own B H x (.ins (LotC K) dx []) ∧ B p = some (.tup (ms.map nV)) ∧ LotS w ms ∧
  ∀ B' H' fs nd f, Gr [x] B H B' H' → Own B' H' x (.ins (LotC K) dx fs) → LotF K B' fs w nd f → LotM w ms nd f → Q .non H'
def spInit (K : PySem.W.Frag) : Sp := fun vs H Q E => ∃ (B : Hp) (x dx : Addr) (w v : V), vs = [.ref x, w, v] ∧ Same B H ∧ Own B H x (.ins (LotC K) dx []) ∧ Sh K B w ∧ Things K B v ∧
  (lotDue B w v = none → ∀ B' H' fs z ms nd f, w = .str z → tupOf B v = some (ms.map nV) → LotS z ms → Gr [x] B H B' H' → Own B' H' x (.ins (LotC K) dx fs) → LotF K B' fs z nd f → LotM z ms nd f → Q .non H') ∧
  (∀ part, lotDue B w v = some part → ∀ B' H' d, Gr [x] B H B' H' → H' d = some (.xd [("part", .str part)]) → E (.ref (He.ga K "BadLot")) (some d) H')
theorem asc_len {n : Nat} : ∀ {l : List Nat} {a : Nat}, l.Pairwise (· < ·) → a ≤ n + 1 → (∀ m ∈ l, a ≤ m ∧ m ≤ n) → l.length + a ≤ n + 1
  | [], a, _, ha, _ => by simpa using ha
  | x :: l, a, hs, ha, hb => by
    have h := List.pairwise_cons.mp hs
    have hx := hb x (List.mem_cons_self ..)
    have := asc_len (l := l) (a := x + 1) h.2 (by omega) fun m hm => ⟨h.1 m hm, (hb m (List.mem_cons_of_mem _ hm)).2⟩
    rw [List.length_cons]
    omega
theorem okI_nat {us : List V} (h : us.all okI = true) : ∃ ms : List Nat, us = ms.map nV ∧ ∀ m ∈ ms, 0 < m ∧ m ≤ 12 := by
  induction us with
  | nil => exact ⟨[], rfl, fun m hm => by cases hm⟩
  | cons a us ih =>
    rw [List.all_cons, Bool.and_eq_true] at h
    obtain ⟨ms, rfl, hm⟩ := ih h.2
    cases a with
    | int i =>
      have h1 : (decide (1 ≤ i) && decide (i ≤ 12)) = true := h.1
      rw [Bool.and_eq_true] at h1
      have a1 := of_decide_eq_true h1.1
      have a2 := of_decide_eq_true h1.2
      refine ⟨i.toNat :: ms, ?_, fun m hm' => ?_⟩
      · show V.int i :: _ = V.int ((i.toNat : Nat) : Int) :: _
        rw [show ((i.toNat : Nat) : Int) = i by omega]
      · rcases List.mem_cons.mp hm' with rfl | hm'
        · omega
        · exact hm m hm'
    | _ => cases h.1
section
variable {P : Program} {w : World} {K : PySem.W.Frag} {mg : Str → Option Value} {base : Heap}
theorem ok_keep (T : Txt K mg) (Dneeded_makers : DefOk P w K mg base CX0 2 "needed_makers" p_needed_makers (spNeeded K)) (Dleasts_of : DefOk P w K mg base CX0 1 "leasts_of" p_leasts_of (spLeasts K)) {fd : FuncData}
    (F : FunD K "keep" "Lot.keep" (defArgs s_Lot_keep) (defBody s_Lot_keep) (defScope s_Lot_keep) [] [] (He.ma K (He.ga K "Lot") "keep") fd) : FnOk P w K mg base CX0 3 (He.ma K (He.ga K "Lot") "keep") fd p_Lot_keep (spKeep K) := by
  refine F.ok sc_Lot_keep (fun vs H Q E h => ?_) (fun cdv A outer s H vs Q E hr h => ?_)
  · obtain ⟨B, x, dx, p, w, ms, rfl, _⟩ := h
    rfl
  · obtain ⟨B, x, dx, p, wd, ms, rfl, hS, hx, hp, hG, k⟩ := h
    refine ⟨_, PSs.nox (pss_cons (ps_fld (pv 0) (pv 1) rfl)
    (pss_cons (ps_fld (pv 0) (pe_callD Dneeded_makers (hr.mono (by first | decide | omega)) rfl pass0 (pa_cons (pv 2) pa_nil)) rfl)
    (pss_one (ps_fld (pv 0) (pe_ifExp (pt_cmpR op_eq (pv 1) (pe_globD T.c_MORE) (nomark _)) (pe_callD Dleasts_of (hr.mono (by first | decide | omega)) rfl pass0 (pa_cons (pe_fld (pv 0) rfl) pa_nil)) (pe_lst pa_nil)) rfl)))), ?_⟩
    walk_at "go"
    refine ⟨x, _, dx, _, rfl, hx.2, T.x_Lot, T.na_word, by decide, ?_⟩
    have s1 : Gr [x] B H B (upd H x (.ins (LotC K) dx (putF "word" (.str wd) []))) := Gr.set hS hx.1 hx.2 (List.mem_singleton.mpr rfl)
    have o1 := hx.put (u := .ins (LotC K) dx (putF "word" (.str wd) []))
    walk_at "go"
    refine ⟨B, p, ms, rfl, s1.bh, s1.bh _ _ hp, by have := hG.len; omega, fun m hm => ⟨(hG.ok m hm).1, by have := (hG.ok m hm).2; omega⟩, fun B1 H1 q l g1 hasc hq => ?_⟩
    have o2 := o1.up g1
    have gg1 : Gr [x] B H B1 H1 := s1.trans' g1 (fun q hq => nomatch hq)
    walk_at "go"
    refine ⟨x, _, dx, _, rfl, o2.2, T.x_Lot, T.na_makers, by show 1 < 1000; decide, ?_⟩
    have s3 : Gr [x] B1 H1 B1 (upd H1 x (.ins (LotC K) dx (putF "makers" (.ref q) (putF "word" (.str wd) [])))) := Gr.set g1.bh o2.1 o2.2 (List.mem_singleton.mpr rfl)
    have o3 := o2.put (u := .ins (LotC K) dx (putF "makers" (.ref q) (putF "word" (.str wd) [])))
    have g3 := gg1.trans s3
    have hlpos : ∀ m ∈ need l, 0 < m ∧ m ≤ 12 := fun m hm => hG.ok m ((hasc.2 m).mp (need_sub l m hm))
    walk_at "go"
    rw [dS]
    by_cases hw : wd = "more"
    · rw [decide_eq_true hw]
      walk_at "go"
      refine ⟨x, _, dx, _, .ref q, rfl, o3.2, T.x_Lot, T.na_makers, rfl, ?_⟩
      have hne : l ≠ [] := fun e => by
        have h1 := hG.iff.mpr hw
        cases ms with
        | nil => cases h1
        | cons a r => have := (hasc.2 a).mpr (List.mem_cons_self ..); rw [e] at this; cases this
      have hlp : ∀ m ∈ l, 0 < m := fun m hm => (hG.ok m ((hasc.2 m).mp hm)).1
      obtain ⟨f, hf⟩ := leaT_ex (need_ne hne hlp) fun m hm => (hlpos m hm).1
      have hln : (need l).length ≤ 1000 := by
        have a := need_len l
        have b : l.length + 0 ≤ 12 + 1 := asc_len hasc.1 (by omega) fun m hm => ⟨by omega, (hG.ok m ((hasc.2 m).mp hm)).2⟩
        omega
      walk_at "go"
      refine ⟨B1, q, need l, f, rfl, s3.bh, .inr (s3.bh _ _ hq), fun m hm => (hlpos m hm).1, hln, fun m hm => by have := (hlpos m hm).2; omega, hf, fun B2 H2 r g4 hr' => ?_⟩
      have o4 := o3.up g4
      have g5 : Gr [x] B H B2 H2 := g3.trans' g4 (fun q hq => nomatch hq)
      walk_at "go"
      refine ⟨x, _, dx, _, rfl, o4.2, T.x_Lot, T.na_leasts, by show 2 < 1000; decide, ?_⟩
      have s6 : Gr [x] B2 H2 B2 (upd H2 x (.ins (LotC K) dx (putF "leasts" (.ref r) (putF "makers" (.ref q) (putF "word" (.str wd) []))))) := Gr.set g4.bh o4.1 o4.2 (List.mem_singleton.mpr rfl)
      exact k _ _ _ (need l) f (g5.trans s6) (o4.put) ⟨rfl, ⟨q, rfl, g4.bb _ _ hq⟩, r, rfl, hr'⟩ ⟨⟨l, hasc, rfl⟩, fun _ => hf, fun z => absurd hw z⟩
    · rw [decide_eq_false hw]
      walk_at "go"
      refine ⟨sz5 (by simp), fun r hr' => ?_⟩
      have s4 : Gr [] _ _ _ _ := Gr.new (ms := []) (o := .lst []) g3.bh hr'
      have o4 := o3.up s4
      have g5 : Gr [x] B H _ _ := g3.trans' s4 (fun q hq => nomatch hq)
      walk_at "go"
      refine ⟨x, _, dx, _, rfl, o4.2, T.x_Lot, T.na_leasts, by show 2 < 1000; decide, ?_⟩
      have s6 : Gr [x] _ _ _ (upd _ x (.ins (LotC K) dx (putF "leasts" (.ref r) (putF "makers" (.ref q) (putF "word" (.str wd) []))))) := Gr.set s4.bh o4.1 o4.2 (List.mem_singleton.mpr rfl)
      exact k _ _ _ (need l) [] (g5.trans s6) (o4.put) ⟨rfl, ⟨q, rfl, s4.bb _ _ hq⟩, r, rfl, upd_same⟩ ⟨⟨l, hasc, rfl⟩, fun z => absurd z hw, fun _ => rfl⟩
end

end K01
set_option maxRecDepth 100000
set_option maxHeartbeats 2000000
namespace K01
open PySem PySem.Spec PyProof.Rows L2 Us
theorem wordB_in {B : Hp} (z : Str) : (inV (.str z) [.str "once", .str "loan", .str "free", .str "more"]) = wordB (.str z) := by
  have e : ∀ y : Str, eqV (.str y) (.str z) = decide (z = y) := fun y => by
    show (y == z) = decide (z = y)
    by_cases h : z = y
    · subst h; simp
    · rw [decide_eq_false h]; exact beq_eq_false_iff_ne.mpr (Ne.symm h)
  unfold inV wordB
  simp only [List.any_cons, List.any_nil, Bool.or_false, e, Bool.or_assoc]
theorem str_of {K : PySem.W.Frag} {B : Hp} {v : V} (sh : Sh K B v) (h : shB B v "str" = true) : ∃ z, v = .str z := by
  cases sh with
  | str z => exact ⟨z, rfl⟩
  | bl b => exact absurd h (by show ¬ (("str" == "bool" || "str" == "int") = true); decide)
  | int b => exact absurd h (by show ¬ (("str" == "int") = true); decide)
  | tup h' => rw [shB_tup h'] at h; exact absurd h (by decide)
  | lst h' => rw [shB_lst h'] at h; exact absurd h (by decide)
  | dct h' => rw [shB_dct h'] at h; exact absurd h (by decide)
  | ins h' c => rw [shB_ins h'] at h; cases h
  | non => cases h
theorem lotDue_word {B : Hp} {w v : V} (h : wordB w = false) : lotDue B w v = some ("word" : Str) := by unfold lotDue; rw [h]; rfl
section
variable {P : Program} {w : World} {K : PySem.W.Frag} {mg : Str → Option Value} {base : Heap}
theorem ok_init (T : Txt K mg) (Dare_makers : DefOk P w K mg base CX0 2 "are_makers" p_are_makers (spAre K)) {fd fdk : FuncData}
    (Gkeep : FnOk P w K mg base CX0 3 (He.ma K (He.ga K "Lot") "keep") fdk p_Lot_keep (spKeep K)) (bkeep : L2.Binds K fdk p_Lot_keep [])
    (hP : P = R.prog) (F : FunD K "__init__" "Lot.__init__" (defArgs s_Lot__init) (defBody s_Lot__init) (defScope s_Lot__init) [] [] (He.ma K (He.ga K "Lot") "__init__") fd) : FnOk P w K mg base (L2.CX P w) 4 (He.ma K (He.ga K "Lot") "__init__") fd p_Lot__init (spInit K) := by
  subst hP
  refine F.ok sc_Lot__init (fun vs H Q E h => ?_) (fun cdv A outer s H vs Q E hr h => ?_)
  · obtain ⟨B, x, dx, w, v, rfl, _⟩ := h
    rfl
  · obtain ⟨B, x, dx, wd, v, rfl, hS, hx, shw, ht, k1, k2⟩ := h
    have sh := ht.1
    refine ⟨_, (pss_cons (ps_if (PW.pt (pw_or (pt_not (pt_val (pe_callB call_isi (by rfl) T.f_isinstance (by decide +kernel) (pa_cons (pv 1) (pa_cons (pe_bltn (v := .ty "str") (by rfl) T.f_str (by decide +kernel) rfl) pa_nil))))) (pw_or1 (pt_cmpR op_notIn_seq (pv 1) (pe_tup (pa_cons (pe_globD T.c_ONCE) (pa_cons (pe_globD T.c_LOAN) (pa_cons (pe_globD T.c_FREE) (pa_cons (pe_globD T.c_MORE) pa_nil))))) (by rfl)))))
      (pss_one (ps_raise rfl (takes_of rfl rfl rfl rfl) (pmk_supX (k := 0) (d := sup_BadLot) rfl T.su_BadLot T.g_BadLot (hr.mono (by first | decide | omega)) rfl pe_str)))
      pss_nil)
    (pss_cons (ps_if (PW.pt (pw_or (pt_not (pt_val (pe_callD Dare_makers (hr.mono (by first | decide | omega)) rfl pass0 (pa_cons (pv 2) (pa_cons (pe_globD T.c_MOST_MAKER) pa_nil))))) (pw_or (pt_cmpR op_ne (pe_cmpR op_gt (pe_callB call_lenU (by rfl) T.f_len (by decide +kernel) (pa_cons (pv 2) pa_nil)) pe_int (nomark _)) (pe_cmpR op_eq (pv 1) (pe_globD T.c_MORE) (nomark _)) (nomark _)) (pw_or1 (pt_cmpR op_gt (pe_callB call_lenU (by rfl) T.f_len (by decide +kernel) (pa_cons (pv 2) pa_nil)) (pe_globD T.c_MOST_MAKERS) (nomark _))))))
      (pss_one (ps_raise rfl (takes_of rfl rfl rfl rfl) (pmk_supX (k := 0) (d := sup_BadLot) rfl T.su_BadLot T.g_BadLot (hr.mono (by first | decide | omega)) rfl pe_str)))
      pss_nil)
    (pss_one (ps_expr (pe_meth (pv 0) T.x_Lot T.me_keep Gkeep (hr.mono (by first | decide | omega)) bkeep .nil pass0 (pa_cons (pv 1) (pa_cons (pv 2) pa_nil))))))), ?_⟩
    -- the word is not told
    have bad1 : ∀ H1, Gr [x] B H B H1 → wordB wd = false → ∀ d, H1 d = none → E (.ref (He.ga K "BadLot")) (some d) (upd H1 d (.xd [("part", .str "word")])) := fun H1 g hb d hd => by
      exact k2 "word" (lotDue_word hb) _ _ d (g.trans (Gr.cell g.bh hd)) upd_same
    walk_at "go"
    cases hstr : shB B wd "str" with
    | false =>
      have hw : wordB wd = false := by
        cases wd with
        | str z => exact absurd hstr (by show ¬ (("str" == "str") = false); decide)
        | _ => rfl
      walk_at "go"
      refine i_sup fun d hd => ?_
      exact bad1 H (Gr.refl hS) hw d hd
    | true =>
      obtain ⟨z, rfl⟩ := str_of shw hstr
      refine iteF ?_
      walk_at "go"
      refine ⟨sz5 (by simp), fun t1 ht1 => ?_⟩
      have g0 : Gr [] B H B (upd H t1 (.tup [.str "once", .str "loan", .str "free", .str "more"])) := Gr.cell hS ht1
      have g1 : Gr [x] B H B (upd H t1 (.tup [.str "once", .str "loan", .str "free", .str "more"])) := g0.up
      have o1 := hx.up g0
      refine ⟨t1, _, rfl, .inr (SqT.of upd_same), rfl, rfl, ?_⟩
      have ew := wordB_in (B := B) z
      rw [show (if true = true then !inV (V.str z) [V.str "once", V.str "loan", V.str "free", V.str "more"] else inV (V.str z) [V.str "once", V.str "loan", V.str "free", V.str "more"]) = !wordB (.str z) by rw [if_pos rfl, ew]]
      walk_at "go"
      cases hw : wordB (.str z) with
      | false =>
        refine iteT ?_
        walk_at "go"
        refine i_sup fun d hd => ?_
        exact bad1 _ g1 hw d hd
      | true =>
        refine iteF ?_
        walk_at "go"
        refine ⟨B, v, rfl, g1.bh, ht, fun H2 g2 => ?_⟩
        have gg : Gr [x] B H B H2 := g1.trans' g2 (fun q hq => nomatch hq)
        have o2 := o1.up g2
        have bad2 : lotDue B (.str z) v = some ("makers" : Str) → ∀ H1, Gr [x] B H B H1 → ∀ d, H1 d = none → E (.ref (He.ga K "BadLot")) (some d) (upd H1 d (.xd [("part", .str "makers")])) := fun hd H1 g d hd' => k2 "makers" hd _ _ d (g.trans (Gr.cell g.bh hd')) upd_same
        have due : lotDue B (.str z) v = (match tupOf B v with
          | some us => if (us.all okI && lenB (.str z) us.length) = true then none else some ("makers" : Str)
          | none => some ("makers" : Str)) := by unfold lotDue; rw [hw]; rfl
        walk_at "go"
        cases hA : areB B v with
        | false =>
          have hd : lotDue B (.str z) v = some ("makers" : Str) := by
            rw [due]
            unfold areB at hA
            cases ht' : tupOf B v with
            | none => rfl
            | some us =>
              rw [ht'] at hA
              show (if (us.all okI && lenB (.str z) us.length) = true then none else some ("makers" : Str)) = some ("makers" : Str)
              rw [show us.all okI = false from hA]
              rfl
          walk_at "go"
          refine i_sup fun d hd' => ?_
          exact bad2 hd H2 gg d hd'
        | true =>
          obtain ⟨p, us, rfl, hp, hall⟩ : ∃ p us, v = .ref p ∧ B p = some (.tup us) ∧ us.all okI = true := by
            unfold areB at hA
            cases hT : shB B v "tuple" with
            | false => rw [tupOf_no sh hT] at hA; cases hA
            | true =>
              obtain ⟨p, us, rfl, hp⟩ := tup_yes sh hT
              rw [tupOf_tup hp] at hA
              exact ⟨p, us, rfl, hp, hA⟩
          rw [tupOf_tup hp] at due
          simp only [hall, Bool.true_and] at due
          obtain ⟨ms, rfl, hms⟩ := okI_nat hall
          rw [List.length_map] at due
          walk_at "go"
          refine i_lenT (SqT.of (gg.bh _ _ hp)) ?_
          walk_at "go"
          rw [dS, List.length_map]
          have e1 : decide ((0 : Int) < (ms.length : Int)) = decide (0 < ms.length) := by by_cases h : 0 < ms.length <;> simp [h] <;> omega
          have e2 : decide ((4 : Int) < (ms.length : Int)) = decide (4 < ms.length) := by by_cases h : 4 < ms.length <;> simp [h] <;> omega
          have e3 : lenB (.str z) ms.length = ((decide (0 < ms.length) == decide (z = "more")) && !decide (4 < ms.length)) := by
            unfold lenB
            rw [dS]
            congr 1
            by_cases h : 4 < ms.length <;> simp [h] <;> omega
          rw [e1, dB]
          cases h1 : (decide (0 < ms.length) == decide (z = "more")) with
          | false =>
            rw [e3, h1] at due
            walk_at "go"
            refine i_sup fun d hd' => ?_
            exact bad2 due H2 gg d hd'
          | true =>
            walk_at "go"
            refine i_lenT (SqT.of (gg.bh _ _ hp)) ?_
            walk_at "go"
            rw [List.length_map, e2]
            cases h2 : decide (4 < ms.length) with
            | true =>
              rw [e3, h1, h2] at due
              walk_at "go"
              refine i_sup fun d hd' => ?_
              exact bad2 due H2 gg d hd'
            | false =>
              rw [e3, h1, h2] at due
              have hS2 : LotS z ms := ⟨hw, hms, by have := of_decide_eq_false h2; omega, by
                have := eq_of_beq h1
                constructor
                · intro h; rw [decide_eq_true h] at this; exact of_decide_eq_true this.symm
                · intro h; rw [decide_eq_true h] at this; exact of_decide_eq_true this⟩
              walk_at "go"
              refine ⟨x, dx, _, rfl, o2.2, rfl, ?_⟩
              walk_at "go"
              refine ⟨B, x, dx, p, z, ms, rfl, gg.bh, o2, hp, hS2, fun B' H' fs nd f g3 o3 lf lm => ?_⟩
              exact k1 due _ _ fs z ms nd f rfl (tupOf_tup hp) hS2 (gg.trans g3) o3 lf lm
end

end K01
set_option maxRecDepth 100000
set_option maxHeartbeats 2000000
namespace K01
open PySem PySem.Spec PyProof.Rows L2 Us
theorem k_notL {K : PySem.W.Frag} {mg : Str → Option Value} (T : Txt K mg) {n : String} (h : n ∈ sevenT) : PySem.W.kitOne K (.type n) (.ref (LotC K)) = some false := by
  simp only [sevenT, List.mem_cons, List.not_mem_nil, or_false] at h
  rcases h with rfl | rfl | rfl | rfl | rfl | rfl | rfl
  · exact T.k_strL
  · exact T.k_tupleL
  · exact T.k_listL
  · exact T.k_NoneTypeL
  · exact T.k_intL
  · exact T.k_boolL
  · exact T.k_dictL
/-- a lot that stands for good -/
def LotAt (K : PySem.W.Frag) (B : Hp) (a : Addr) (w : Str) (nd : List Nat) (f : List (Option Nat)) : Prop := ∃ dx fs, B a = some (.ins (LotC K) dx fs) ∧ LotF K B fs w nd f
theorem LotAt.mono {K : PySem.W.Frag} {B B' : Hp} {a : Addr} {w : Str} {nd : List Nat} {f : List (Option Nat)} (s : Same B B') (h : LotAt K B a w nd f) : LotAt K B' a w nd f := by
  obtain ⟨dx, fs, e, l⟩ := h
  exact ⟨dx, fs, s _ _ e, l.mono s⟩
def holdsB (w : Str) (f : List (Option Nat)) (n : Nat) : Bool := if w = "once" then decide (n = 1) else if w = "loan" then decide (n < 2) else decide (w = "free") || (decide (0 < n) && isSumB f (n - 1))
def maxO (f : List (Option Nat)) : Nat := (f.map (·.getD 0)).foldl max 0
def missB (w : Str) (f : List (Option Nat)) : Option (List Nat) := if w = "free" then some [] else if w ≠ "more" ∨ none ∈ f then none else some (((List.range (maxO f)).map (· + 1)).filter fun n => !holdsB w f n)
def MissV (B : Hp) (v : V) : Option (List Nat) → Prop
  | none => v = .non
  | some l => ∃ p, v = .ref p ∧ B p = some (.tup (l.map nV))
def spEq (K : PySem.W.Frag) : Sp := fun vs H Q _ => ∃ (B : Hp) (a : Addr) (y : V) (w : Str) (nd : List Nat) (f : List (Option Nat)), vs = [.ref a, y] ∧ Same B H ∧ LotAt K B a w nd f ∧
  ((∃ b w' nd' f', y = .ref b ∧ LotAt K B b w' nd' f' ∧ Q (.bl (decide (w = w') && decide (nd = nd'))) H) ∨ (Dcl K B y ∧ Q (.bl false) H))
def spHoldsT (K : PySem.W.Frag) : Sp := fun vs H Q _ => ∃ (B : Hp) (a : Addr) (n : Nat) (w : Str) (nd : List Nat) (f : List (Option Nat)), vs = [.ref a, .int (n : Int)] ∧ Same B H ∧ LotAt K B a w nd f ∧ wordB (.str w) = true ∧ (w = "more" → 0 < f.length) ∧ Q (.bl (holdsB w f n)) H
def spHolds (K : PySem.W.Frag) : Sp := fun vs H Q _ => ∃ (B : Hp) (a : Addr) (n : Nat) (w : Str) (nd : List Nat) (f : List (Option Nat)), vs = [.ref a, .int (n : Int)] ∧ n ≤ 10000 ∧ Same B H ∧ LotAt K B a w nd f ∧ wordB (.str w) = true ∧ (w = "more" → 0 < f.length) ∧ Q (.bl (holdsB w f n)) H
def spMissing (K : PySem.W.Frag) : Sp := fun vs H Q _ => ∃ (B : Hp) (a : Addr) (w : Str) (nd : List Nat) (f : List (Option Nat)), vs = [.ref a] ∧ Same B H ∧ LotAt K B a w nd f ∧ wordB (.str w) = true ∧ (w = "more" → 0 < f.length) ∧ maxO f ≤ 1000 ∧ ∀ B' H' v, Gr [] B H B' H' → MissV B' v (missB w f) → Q v H'
section
variable {P : Program} {w : World} {K : PySem.W.Frag} {mg : Str → Option Value} {base : Heap}
theorem ok_eq (T : Txt K mg) {fd : FuncData} (F : FunD K "__eq__" "Lot.__eq__" (defArgs s_Lot__eq) (defBody s_Lot__eq) (defScope s_Lot__eq) [] [] (He.ma K (He.ga K "Lot") "__eq__") fd) : FnOk P w K mg base CX0 1 (He.ma K (He.ga K "Lot") "__eq__") fd p_Lot__eq (spEq K) := by
  refine F.ok sc_Lot__eq (fun vs H Q E h => ?_) (fun cdv A outer s H vs Q E hr h => ?_)
  · obtain ⟨B, a, y, w, nd, f, rfl, _⟩ := h
    rfl
  · obtain ⟨B, a, y, w, nd, f, rfl, hS, ⟨dx, fs, ha, lf⟩, h⟩ := h
    refine ⟨_, PSs.nox (pss_one (ps_ret (pe_and (pe_callB call_isi (by rfl) T.f_isinstance (by decide +kernel) (pa_cons (pv 1) (pa_cons (pe_glob (v := .ref (He.ga K "Lot")) rfl T.g_Lot rfl) pa_nil))) (pe_and (pe_cmpR op_eq (pe_fld (pv 0) rfl) (pe_fld (pv 1) rfl) (nomark _)) (pe_one (pe_cmpR (op_eqD hr.units) (pe_fld (pv 0) rfl) (pe_fld (pv 1) rfl) (nomark _))))))), ?_⟩
    obtain ⟨lw, ⟨p, lp, hp⟩, _⟩ := lf
    walk_at "go"
    rcases h with ⟨b, w', nd', f', rfl, ⟨dy, gs, hb, lw', ⟨q, lq, hq⟩, _⟩, k⟩ | ⟨hd, k⟩
    · refine i_isO (ins_ty (hS _ _ hb) T.ow_Lot) T.k_LL ?_
      walk_at "go"
      refine ⟨a, _, dx, fs, _, rfl, hS _ _ ha, T.x_Lot, T.na_word, lw, ?_⟩
      walk_at "go"
      refine ⟨b, _, dy, gs, _, rfl, hS _ _ hb, T.x_Lot, T.na_word, lw', ?_⟩
      walk_at "go"
      rw [dS]
      cases hw : decide (w = w') with
      | false =>
        rw [hw] at k
        walk_at "go"
        exact k
      | true =>
        rw [hw] at k
        walk_at "go"
        refine ⟨a, _, dx, fs, _, rfl, hS _ _ ha, T.x_Lot, T.na_makers, lp, ?_⟩
        walk_at "go"
        refine ⟨b, _, dy, gs, _, rfl, hS _ _ hb, T.x_Lot, T.na_makers, lq, ?_⟩
        exact i_eqTn (hS _ _ hp) (hS _ _ hq) k
    · obtain ⟨n, hn, ty⟩ := dcl_ty (hd.mono hS)
      refine i_isO ty (k_notL T hn) ?_
      walk_at "go"
      exact k
theorem ok_holds_there (T : Txt K mg) (Dis_sum : DefOk P w K mg base CX0 1 "is_sum" p_is_sum (spIsSum K)) (Dholds_raw : DefOk P w K mg base CX0 1 "holds_raw" p_holds_raw (fun _ _ _ _ => False)) : DefOk P w K mg base CX0 2 "holds_there" p_holds_there (spHoldsT K) := by
  refine T.d_holds_there.ok sc_holds_there (fun _ _ _ _ _ _ us hl => match us, hl with | [_, _], _ => rfl) (fun vs H Q E h => ?_) (fun fa cdv A outer s H vs Q E hr h => ?_)
  · obtain ⟨B, a, n, w, nd, f, rfl, _⟩ := h
    rfl
  · obtain ⟨B, a, n, w, nd, f, rfl, hS, ⟨dx, fs, ha, lw, _, l, ll, hl⟩, hw, hm, k⟩ := h
    refine ⟨_, PSs.nox (pss_cons (ps_if (pt_val (pe_callB call_isi (by rfl) T.f_isinstance (by decide +kernel) (pa_cons (pv 0) (pa_cons (pe_glob (v := .ref (He.ga K "RawLot")) rfl T.g_RawLot rfl) pa_nil))))
      (pss_one (ps_ret (pe_callD Dholds_raw (hr.mono (by first | decide | omega)) rfl pass0 (pa_cons (pv 0) (pa_cons (pv 1) pa_nil)))))
      pss_nil)
    (pss_cons (ps_if (pt_cmpR op_eq (pe_fld (pv 0) rfl) (pe_globD T.c_ONCE) (nomark _))
      (pss_one (ps_ret (pe_cmpR op_eq (pv 1) pe_int (nomark _))))
      pss_nil)
    (pss_cons (ps_if (pt_cmpR op_eq (pe_fld (pv 0) rfl) (pe_globD T.c_LOAN) (nomark _))
      (pss_one (ps_ret (pe_cmpR op_lt (pv 1) pe_int (nomark _))))
      pss_nil)
    (pss_one (ps_ret (pe_or (pe_cmpR op_eq (pe_fld (pv 0) rfl) (pe_globD T.c_FREE) (nomark _)) (pe_one (pe_and (pe_cmpR op_gt (pv 1) pe_int (nomark _)) (pe_one (pe_callD Dis_sum (hr.mono (by first | decide | omega)) rfl pass0 (pa_cons (pe_fld (pv 0) rfl) (pa_cons (pe_op op_sub (pv 1) pe_int) pa_nil)))))))))))), ?_⟩
    unfold holdsB at k
    walk_at "go"
    refine i_isO (ins_ty (hS _ _ ha) T.ow_Lot) T.k_LR ?_
    walk_at "go"
    refine ⟨a, _, dx, fs, _, rfl, hS _ _ ha, T.x_Lot, T.na_word, lw, ?_⟩
    walk_at "go"
    rw [dS]
    by_cases h1 : w = "once"
    · rw [decide_eq_true h1]
      rw [if_pos h1] at k
      walk_at "go"
      rw [dI, show decide ((n : Int) = 1) = decide (n = 1) by by_cases h : n = 1 <;> simp [h] <;> omega]
      exact k
    rw [decide_eq_false h1]
    rw [if_neg h1] at k
    walk_at "go"
    refine ⟨a, _, dx, fs, _, rfl, hS _ _ ha, T.x_Lot, T.na_word, lw, ?_⟩
    walk_at "go"
    rw [dS]
    by_cases h2 : w = "loan"
    · rw [decide_eq_true h2]
      rw [if_pos h2] at k
      walk_at "go"
      rw [show decide ((n : Int) < 2) = decide (n < 2) by by_cases h : n < 2 <;> simp [h] <;> omega]
      exact k
    rw [decide_eq_false h2]
    rw [if_neg h2] at k
    walk_at "go"
    refine ⟨a, _, dx, fs, _, rfl, hS _ _ ha, T.x_Lot, T.na_word, lw, ?_⟩
    walk_at "go"
    rw [dS]
    by_cases h3 : w = "free"
    · rw [decide_eq_true h3]
      rw [decide_eq_true h3] at k
      walk_at "go"
      exact k
    rw [decide_eq_false h3]
    rw [decide_eq_false h3] at k
    have h4 : w = "more" := by
      have hw' : (decide (w = "once") || decide (w = "loan") || decide (w = "free") || decide (w = "more")) = true := hw
      rw [decide_eq_false h1, decide_eq_false h2, decide_eq_false h3] at hw'
      exact of_decide_eq_true hw'
    walk_at "go"
    rw [show decide ((0 : Int) < (n : Int)) = decide (0 < n) by by_cases h : 0 < n <;> simp [h] <;> omega]
    cases hn : decide (0 < n) with
    | false =>
      rw [hn] at k
      walk_at "go"
      exact k
    | true =>
      rw [hn] at k
      walk_at "go"
      refine ⟨a, _, dx, fs, _, rfl, hS _ _ ha, T.x_Lot, T.na_leasts, ll, ?_⟩
      walk_at "go"
      have h0 := of_decide_eq_true hn
      refine ⟨l, f, n - 1, by rw [show ((n - 1 : Nat) : Int) = (n : Int) - 1 by omega]; rfl, hS _ _ hl, hm h4, ?_⟩
      exact k
theorem ok_holds_raw_no (T : Txt K mg) : DefOk P w K mg base CX0 1 "holds_raw" p_holds_raw (fun _ _ _ _ => False) :=
  T.d_holds_raw.ok sc_holds_raw (fun _ _ _ _ _ _ us hl => match us, hl with | [_, _], _ => rfl) (fun vs H Q E h => h.elim) (fun f cdv A outer s H vs Q E hr h => h.elim)
theorem ok_holds (T : Txt K mg) (Dis_integer : DefOk P w K mg base CX0 1 "is_integer" p_is_integer (spIsInt K)) (Dholds_there : DefOk P w K mg base CX0 2 "holds_there" p_holds_there (spHoldsT K)) : DefOk P w K mg base CX0 3 "holds" p_holds (spHolds K) := by
  refine T.d_holds.ok sc_holds (fun _ _ _ _ _ _ us hl => match us, hl with | [_, _], _ => rfl) (fun vs H Q E h => ?_) (fun fa cdv A outer s H vs Q E hr h => ?_)
  · obtain ⟨B, a, n, w, nd, f, rfl, _⟩ := h
    rfl
  · obtain ⟨B, a, n, w, nd, f, rfl, hn, hS, la, hw, hm, k⟩ := h
    refine ⟨_, PSs.nox (pss_cons (ps_if (PW.pt (pw_or (pt_not (pt_val (pe_callD Dis_integer (hr.mono (by first | decide | omega)) rfl pass0 (pa_cons (pv 1) pa_nil)))) (pw_or1 (pt_not (pt_chain op_le op_le pe_int (pv 1) (pe_globD T.c_MOST_HELD))))))
      (pss_one ps_never)
      pss_nil)
    (pss_one (ps_ret (pe_callD Dholds_there (hr.mono (by first | decide | omega)) rfl pass0 (pa_cons (pv 0) (pa_cons (pv 1) pa_nil)))))), ?_⟩
    walk_at "go"
    refine ⟨B, _, rfl, hS, .int _, ?_⟩
    walk_at "go"
    refine iteF ?_
    walk_at "go"
    rw [decide_eq_true (by omega : (0 : Int) ≤ (n : Int))]
    walk_at "go"
    rw [decide_eq_true (by omega : (n : Int) ≤ 10000)]
    walk_at "go"
    exact ⟨B, a, n, w, nd, f, rfl, hS, la, hw, hm, k⟩
theorem maxO_cons (o : Option Nat) (f : List (Option Nat)) (m : Nat) : (((o :: f).map (·.getD 0)).foldl max m) = ((f.map (·.getD 0)).foldl max (max m (o.getD 0))) := rfl
theorem foldl_max (l : List Nat) : ∀ m, m ≤ l.foldl max m ∧ (∀ x ∈ l, x ≤ l.foldl max m) ∧ (l.foldl max m = m ∨ l.foldl max m ∈ l) := by
  induction l with
  | nil => exact fun m => ⟨Nat.le_refl _, (fun x h => nomatch h), .inl rfl⟩
  | cons a l ih =>
    intro m
    obtain ⟨h1, h2, h3⟩ := ih (max m a)
    refine ⟨by rw [List.foldl_cons]; omega, fun x hx => ?_, ?_⟩
    · rw [List.foldl_cons]
      rcases List.mem_cons.mp hx with rfl | hx
      · omega
      · exact h2 x hx
    · rw [List.foldl_cons]
      rcases h3 with h | h
      · rw [h]
        rcases Nat.le_total m a with q | q
        · rw [Nat.max_eq_right q]; exact .inr (List.mem_cons_self ..)
        · rw [Nat.max_eq_left q]; exact .inl rfl
      · exact .inr (List.mem_cons_of_mem _ h)
theorem maxO_is {f : List (Option Nat)} {m : Int} (hne : f ≠ []) (h : none ∉ f) (h1 : m ∈ (f.map (fun o => ((o.getD 0 : Nat) : Int)))) (h2 : ∀ y ∈ (f.map (fun o => ((o.getD 0 : Nat) : Int))), y ≤ m) : m = (maxO f : Int) := by
  obtain ⟨o, ho, rfl⟩ := List.mem_map.mp h1
  obtain ⟨a1, a2, a3⟩ := foldl_max (f.map (·.getD 0)) 0
  have u := a2 (o.getD 0) (List.mem_map.mpr ⟨o, ho, rfl⟩)
  have e : maxO f = (f.map (·.getD 0)).foldl max 0 := rfl
  rw [e]
  rcases a3 with q | q
  · omega
  · obtain ⟨o', ho', e'⟩ := List.mem_map.mp q
    have := h2 _ (List.mem_map.mpr ⟨o', ho', rfl⟩)
    omega
theorem oV_all {f : List (Option Nat)} (h : none ∉ f) : f.map oV = (f.map (fun o => ((o.getD 0 : Nat) : Int))).map V.int := by
  rw [List.map_map]
  refine List.map_congr_left fun o ho => ?_
  cases o with
  | none => exact absurd ho h
  | some l => rfl
theorem oV_flat (f : List (Option Nat)) : (f.map oV).all flatV = true := by
  rw [List.all_map, List.all_eq_true]
  intro o _
  cases o <;> rfl
theorem inV_none (f : List (Option Nat)) : inV .non (f.map oV) = decide (none ∈ f) := by
  unfold inV
  rw [List.any_map]
  by_cases h : none ∈ f
  · rw [decide_eq_true h, List.any_eq_true]
    exact ⟨none, h, rfl⟩
  · rw [decide_eq_false h, List.any_eq_false]
    intro o ho
    cases o with
    | none => exact absurd ho h
    | some l => exact Bool.false_ne_true
theorem ok_missing (T : Txt K mg) (Dholds_there : DefOk P w K mg base CX0 2 "holds_there" p_holds_there (spHoldsT K)) : DefOk P w K mg base CX0 3 "missing" p_missing (spMissing K) := by
  refine T.d_missing.ok sc_missing (fun _ _ _ _ _ _ us hl => match us, hl with | [_], _ => rfl) (fun vs H Q E h => ?_) (fun fa cdv A outer s H vs Q E hr h => ?_)
  · obtain ⟨B, a, w, nd, f, rfl, _⟩ := h
    rfl
  · obtain ⟨B, a, wd, nd, f, rfl, hS, la, hw, hm, hmax, k⟩ := h
    have la' := la
    obtain ⟨dx, fs, ha, lw, _, l, ll, hl⟩ := la
    refine ⟨_, PSs.nox (pss_cons (ps_if (pt_cmpR op_eq (pe_fld (pv 0) rfl) (pe_globD T.c_FREE) (nomark _))
      (pss_one (ps_ret (pe_tup pa_nil)))
      pss_nil)
    (pss_cons (ps_if (PW.pt (pw_or (pt_cmpR op_ne (pe_fld (pv 0) rfl) (pe_globD T.c_MORE) (nomark _)) (pw_or1 (pt_cmpR op_in_seq pe_non (pe_fld (pv 0) rfl) (by rfl)))))
      (pss_one (ps_ret pe_non))
      pss_nil)
    (pss_one (ps_ret (pe_callTy call_tupU (by rfl) T.f_tuple (by decide +kernel) (pa_cons (pe_lc (own := [("number", 1)]) (g := gName 1) rfl sc_missing.nd (pi_range2 (by rfl) T.f_range (pa_cons pe_int (pa_cons (pe_op op_add (pe_callB (cr_max rfl) (by rfl) T.f_max (by decide +kernel) (pa_cons (pe_fld (pv 0) rfl) pa_nil)) pe_int) pa_nil))) (blkOk_by (own := [("number", 1)]) (N := n_missing) (sc := defScope s_missing) (by decide +kernel)) (fun _ _ _ _ _ => (pg_name (i := 1) sc_missing.nd rfl (Or.inl rfl))) (fun _ _ _ _ _ => (pts_one (pt_not (pt_val (pe_callD Dholds_there (hr.mono (by first | decide | omega)) rfl pass0 (pa_cons (pv 0) (pa_cons (pv 1) pa_nil))))))) (fun _ _ _ _ _ => (pv 1))) pa_nil)))))), ?_⟩
    unfold missB at k
    walk_at "go"
    refine ⟨a, _, dx, fs, _, rfl, hS _ _ ha, T.x_Lot, T.na_word, lw, ?_⟩
    walk_at "go"
    rw [dS]
    by_cases h1 : wd = "free"
    · rw [decide_eq_true h1]
      rw [if_pos h1] at k
      walk_at "go"
      refine ⟨sz5 (by simp), fun q hq => ?_⟩
      exact k _ _ _ (Gr.new hS hq) ⟨q, rfl, upd_same⟩
    rw [decide_eq_false h1]
    rw [if_neg h1] at k
    walk_at "go"
    refine ⟨a, _, dx, fs, _, rfl, hS _ _ ha, T.x_Lot, T.na_word, lw, ?_⟩
    walk_at "go"
    rw [dS]
    by_cases h2 : wd = "more"
    · rw [decide_eq_true h2]
      walk_at "go"
      refine ⟨a, _, dx, fs, _, rfl, hS _ _ ha, T.x_Lot, T.na_leasts, ll, ?_⟩
      refine ⟨l, _, rfl, .inl (SqL.of (hS _ _ hl)), rfl, oV_flat f, ?_⟩
      rw [show (if false = true then !inV V.non (f.map oV) else inV V.non (f.map oV)) = decide (none ∈ f) by rw [if_neg (by decide), inV_none]]
      by_cases h3 : none ∈ f
      · rw [decide_eq_true h3]
        rw [if_pos (.inr h3)] at k
        walk_at "go"
        exact k _ _ _ (Gr.refl hS) rfl
      rw [decide_eq_false h3]
      rw [if_neg (by rintro (z | z); exact z h2; exact h3 z)] at k
      walk_at "go"
      refine ⟨a, _, dx, fs, _, rfl, hS _ _ ha, T.x_Lot, T.na_leasts, ll, ?_⟩
      walk_at "go"
      have h0 := hm h2
      have hl2 := hS _ _ hl
      rw [oV_all h3] at hl2
      refine ⟨l, _, rfl, SqL.of hl2, by simpa using h0, fun m m1 m2 => ?_⟩
      have em := maxO_is (f := f) (fun e => by rw [e] at h0; cases h0) h3 m1 m2
      rw [em]
      walk_at "go"
      refine ⟨1, _, rfl, by omega, fun D hD => lc_range (lo := 1) (n := ((maxO f : Int) + 1 - 1).toNat) (fun i H' => Gr [] B H B H' ∧ Own B H' D (.lst ((((List.range i).map (· + 1)).filter fun n => !holdsB wd f n).map nV)) ∧ (((List.range i).map (· + 1)).filter fun n => !holdsB wd f n).length ≤ i) ⟨Gr.cell hS hD, Own.cell hS hD, Nat.le_refl _⟩ ?_ ?_⟩
      · rintro i H1 hi ⟨g, o, hz⟩
        have ei : (1 : Int) + (i : Int) = ((i + 1 : Nat) : Int) := by omega
        rw [ei]
        walk_at "go"
        refine ⟨rfl, ?_⟩
        have esucc : (((List.range (i + 1)).map (· + 1)).filter fun n => !holdsB wd f n) = (((List.range i).map (· + 1)).filter fun n => !holdsB wd f n) ++ (if holdsB wd f (i + 1) = true then [] else [i + 1]) := by
          rw [List.range_succ, List.map_append, List.filter_append]
          congr 1
          simp only [List.map_cons, List.map_nil, List.filter_cons, List.filter_nil]
          cases holdsB wd f (i + 1) <;> rfl
        walk_at "go"
        refine ⟨B, a, i + 1, wd, nd, f, rfl, g.bh, la', hw, hm, ?_⟩
        cases hb : holdsB wd f (i + 1) with
        | true =>
          rw [hb] at esucc
          walk_at "go"
          refine ⟨g, ?_, ?_⟩
          · rw [esucc]; simpa using o
          · rw [esucc]; simp; omega
        | false =>
          rw [hb] at esucc
          walk_at "go"
          refine ⟨_, o.2, sz5' (by simp only [List.length_map]; omega), g.put hD o, ?_, ?_⟩
          · refine ⟨o.1, ?_⟩
            rw [upd_same, esucc]
            simp
          · rw [esucc]; simp; omega
      · rintro H1 ⟨g, o, hz⟩
        rw [show ((maxO f : Int) + 1 - 1).toNat = maxO f by omega] at o
        walk_at "go"
        refine i_tupL (SqL.of o.2) fun q hq => ?_
        exact k _ _ _ (g.trans (Gr.new g.bh hq)) ⟨q, rfl, upd_same⟩
    · rw [decide_eq_false h2]
      rw [if_pos (.inl h2)] at k
      walk_at "go"
      exact k _ _ _ (Gr.refl hS) rfl
end

end K01
set_option maxRecDepth 100000
set_option maxHeartbeats 2000000
namespace K01
open PySem PySem.Spec PyProof.Rows L2 Us
/-! ### the hand -/
def HandAt (B H : Hp) (a : Addr) : Prop := B a = none ∧ ∃ (c : Addr) (ns : List Int) (i big seed n : Int), H a = some (.lst [.ref c, .int i, .int big, .int seed, .int n]) ∧ B c = some (.lst (ns.map V.int)) ∧ (∀ x ∈ ns, 0 ≤ x) ∧ 0 ≤ i ∧ 0 ≤ big ∧ 0 ≤ seed ∧ seed < 2147483648 ∧ 0 ≤ n
theorem HandAt.mono {B B' H H' : Hp} {a : Addr} {ms : List Addr} (g : Gr ms B H B' H') (ha : a ∉ ms) (h : HandAt B H a) : HandAt B' H' a := by
  obtain ⟨b, c, ns, i, big, seed, n, hH, hc, r⟩ := h
  exact ⟨g.bnone b hH, c, ns, i, big, seed, n, g.keep _ _ ha hH, g.bb _ _ hc, r⟩
theorem Gr.setA {B H H1 : Hp} {a : Addr} {u o : HO} (g : Gr [a] B H B H1) (hB : B a = none) (h : H1 a = some u) : Gr [a] B H B (upd H1 a o) := g.trans (Gr.set g.bh hB h (List.mem_singleton.mpr rfl))
def spDraw (K : PySem.W.Frag) : Sp := fun vs H Q _ => ∃ B a m, vs = [.ref a, .int m] ∧ 0 < m ∧ m < 1073741824 ∧ Same B H ∧ HandAt B H a ∧ ∀ H' d, Gr [a] B H B H' → HandAt B H' a → 0 ≤ d → d < m → Q (.int d) H'
section
variable {P : Program} {w : World} {K : PySem.W.Frag} {mg : Str → Option Value} {base : Heap}
theorem ok_draw (T : Txt K mg) : DefOk P w K mg base CX0 1 "_law_draw" p_law_draw (spDraw K) := by
  refine T.d_law_draw.ok sc_law_draw (fun _ _ _ _ _ _ us hl => match us, hl with | [_, _], _ => rfl) (fun vs H Q E h => ?_) (fun f cdv A outer s H vs Q E hr h => ?_)
  · obtain ⟨B, a, m, rfl, _⟩ := h
    rfl
  · obtain ⟨B, a, m, rfl, hm0, hm1, hS, hA, k⟩ := h
    refine ⟨_, PSs.nox (pss_cons (ps_if (PW.pt (pw_and (pt_cmpR op_eq (pe_ix ix_list (pv 0) pe_int (fun _ _ => rfl)) pe_int (nomark _)) (pw_and1 (pt_cmpR op_lt (pe_ix ix_list (pv 0) pe_int (fun _ _ => rfl)) (pe_callB call_lenU (by rfl) T.f_len (by decide +kernel) (pa_cons (pe_ix ix_list (pv 0) pe_int (fun _ _ => rfl)) pa_nil)) (nomark _)))))
      (pss_cons (ps_set (i := 2) sc_law_draw.nd rfl (Or.inl rfl) (pe_ix ix_list (pe_ix ix_list (pv 0) pe_int (fun _ _ => rfl)) (pe_ix ix_list (pv 0) pe_int (fun _ _ => rfl)) (fun _ _ => rfl)))
      (pss_cons (ps_asg (pe_op op_add (pe_ix ix_list (pv 0) pe_int (fun _ _ => rfl)) pe_int) (pg_sub (pv 0) pe_int set_list))
      (pss_cons (ps_asg (pe_op op_mod (pe_callTy call_intU (by rfl) T.f_int (by decide +kernel) (pa_cons (pe_op op_add (pe_op op_add (pe_op op_mul (pe_ix ix_list (pv 0) pe_int (fun _ _ => rfl)) pe_int) (pv 2)) pe_int) pa_nil)) pe_int) (pg_sub (pv 0) pe_int set_list))
      (pss_one (ps_if (pt_cmpR op_ge (pv 2) (pe_op op_pow pe_int pe_int) (nomark _))
        (pss_one (ps_asg (pv 2) (pg_sub (pv 0) pe_int set_list)))
        pss_nil)))))
      pss_nil)
    (pss_cons (ps_if (pt_cmpR op_gt (pe_ix ix_list (pv 0) pe_int (fun _ _ => rfl)) pe_int (nomark _))
      (pss_cons (ps_set (i := 3) sc_law_draw.nd rfl (Or.inl rfl) (pe_op op_mod (pe_callTy call_intU (by rfl) T.f_int (by decide +kernel) (pa_cons (pe_ix ix_list (pv 0) pe_int (fun _ _ => rfl)) pa_nil)) (pv 1)))
      (pss_cons (ps_asg (pe_op op_fdiv (pe_ix ix_list (pv 0) pe_int (fun _ _ => rfl)) (pv 1)) (pg_sub (pv 0) pe_int set_list))
      (pss_one (ps_ret (pv 3)))))
      pss_nil)
    (pss_cons (ps_asg (pe_op op_add (pe_ix ix_list (pv 0) pe_int (fun _ _ => rfl)) pe_int) (pg_sub (pv 0) pe_int set_list))
    (pss_cons (ps_set (i := 4) sc_law_draw.nd rfl (Or.inl rfl) (pe_op op_mod (pe_callTy call_intU (by rfl) T.f_int (by decide +kernel) (pa_cons (pe_op op_mul (pe_callTy call_intU (by rfl) T.f_int (by decide +kernel) (pa_cons (pe_op op_add (pe_ix ix_list (pv 0) pe_int (fun _ _ => rfl)) (pe_op op_mul pe_int (pe_ix ix_list (pv 0) pe_int (fun _ _ => rfl)))) pa_nil)) pe_int) pa_nil)) pe_int))
    (pss_cons (ps_set (i := 4) sc_law_draw.nd rfl (Or.inl rfl) (pe_op op_mod (pe_callTy call_intU (by rfl) T.f_int (by decide +kernel) (pa_cons (pe_op op_mul (pv 4) (pe_op op_add (pe_op op_fdiv (pv 4) pe_int) pe_int)) pa_nil)) pe_int))
    (pss_cons (ps_set (i := 4) sc_law_draw.nd rfl (Or.inl rfl) (pe_op op_mod (pe_callTy call_intU (by rfl) T.f_int (by decide +kernel) (pa_cons (pe_op op_mul (pv 4) (pe_op op_add (pe_op op_fdiv (pv 4) pe_int) pe_int)) pa_nil)) pe_int))
    (pss_one (ps_ret (pe_op op_mod (pe_callTy call_intU (by rfl) T.f_int (by decide +kernel) (pa_cons (pe_op op_fdiv (pv 4) pe_int) pa_nil)) (pv 1)))))))))), ?_⟩
    refine i_seq (i_join (fun σ' H' => ∃ v2, σ' = [some (.ref a), some (.int m), v2, none, none] ∧ Gr [a] B H B H' ∧ HandAt B H' a) ?_ (fun hr => ?_))
    · rintro σ' H' ⟨v2, rfl, g, hA'⟩
      obtain ⟨bA, c, ns, i, big, seed, n, hH, hc, hns, hi, hbig, hs0, hs1, hn⟩ := hA'
      walk_at "go"
      refine i_ixL (SqL.of hH) atI2 ?_
      walk_at "go"
      refine i_case (fun c1 => ?_) (fun c1 => ?_)
      · have hb : 0 < big := of_decide_eq_true c1
        walk_at "go"
        refine i_ixL (SqL.of hH) atI2 ?_
        walk_at "go"
        refine i_rI hm0 ?_
        walk_at "go"
        refine i_ixL (SqL.of hH) atI2 ?_
        walk_at "go"
        refine i_rI ⟨hm0, hm1⟩ ?_
        walk_at "go"
        refine i_setL hH (j := 2) rfl ?_
        walk_at "go"
        have g2 := Gr.setA (o := .lst [.ref c, .int i, .int (big / m), .int seed, .int n]) g bA hH
        exact k _ _ g2 ⟨bA, c, ns, i, big / m, seed, n, upd_same, hc, hns, hi, Int.ediv_nonneg hbig (Int.le_of_lt hm0), hs0, hs1, hn⟩ (Int.emod_nonneg _ (by omega)) (Int.emod_lt_of_pos _ hm0)
      · walk_at "go"
        refine i_ixL (SqL.of hH) atI4 ?_
        walk_at "go"
        refine i_setL hH (j := 4) rfl ?_
        have g2 := Gr.setA (o := .lst [.ref c, .int i, .int big, .int seed, .int (n + 1)]) g bA hH
        have h2 : upd H' a (.lst [.ref c, .int i, .int big, .int seed, .int (n + 1)]) a = some (.lst [.ref c, .int i, .int big, .int seed, .int (n + 1)]) := upd_same
        have hA2 : HandAt B (upd H' a (.lst [.ref c, .int i, .int big, .int seed, .int (n + 1)])) a := ⟨bA, c, ns, i, big, seed, n + 1, upd_same, hc, hns, hi, hbig, hs0, hs1, by omega⟩
        walk_at "go"
        refine i_ixL (SqL.of h2) atI3 ?_
        walk_at "go"
        refine i_ixL (SqL.of h2) atI4 ?_
        walk_at "go"
        refine i_rI (.inl ⟨by decide, by decide⟩) ?_
        walk_at "go"
        refine i_rI (.inr ⟨by decide, by decide⟩) ?_
        walk_at "go"
        refine i_rI (by decide) ?_
        generalize e1 : (seed + 7919 * (n + 1)) * 48271 % 2147483647 = x1
        have p1 : 0 ≤ x1 := by rw [← e1]; exact Int.emod_nonneg _ (by decide)
        have p2 : x1 < 2147483647 := by rw [← e1]; exact Int.emod_lt_of_pos _ (by decide)
        walk_at "go"
        refine i_rI ⟨by decide, by decide⟩ ?_
        walk_at "go"
        refine i_rI (.inl ⟨by omega, by omega⟩) ?_
        walk_at "go"
        refine i_rI (by decide) ?_
        generalize e2 : x1 * (x1 / 1009 + 69621) % 2147483647 = x2
        have p3 : 0 ≤ x2 := by rw [← e2]; exact Int.emod_nonneg _ (by decide)
        have p4 : x2 < 2147483647 := by rw [← e2]; exact Int.emod_lt_of_pos _ (by decide)
        walk_at "go"
        refine i_rI ⟨by decide, by decide⟩ ?_
        walk_at "go"
        refine i_rI (.inl ⟨by omega, by omega⟩) ?_
        walk_at "go"
        refine i_rI (by decide) ?_
        generalize e3 : x2 * (x2 / 2003 + 40692) % 2147483399 = x3
        walk_at "go"
        refine i_rI ⟨by decide, by decide⟩ ?_
        walk_at "go"
        refine i_rI hm0 ?_
        exact k _ _ g2 hA2 (Int.emod_nonneg _ (by omega)) (Int.emod_lt_of_pos _ hm0)
    · obtain ⟨bA, c, ns, i, big, seed, n, hH, hc, hns, hi, hbig, hs0, hs1, hn⟩ := hA
      have g0 : Gr [a] B H B H := Gr.refl hS
      walk_at "go"
      refine i_ixL (SqL.of hH) atI2 ?_
      walk_at "go"
      rw [dI]
      refine i_case (fun c1 => ?_) (fun c1 => ?_)
      · walk_at "go"
        refine i_ixL (SqL.of hH) atI1 ?_
        walk_at "go"
        refine i_ixL (SqL.of hH) atI0 ?_
        walk_at "go"
        refine i_lenL (SqL.of (hS _ _ hc)) ?_
        walk_at "go"
        refine i_case (fun c2 => ?_) (fun c2 => ?_)
        · have hlt : i < (ns.length : Int) := by have := of_decide_eq_true c2; rw [List.length_map] at this; exact this
          obtain ⟨j, rfl⟩ : ∃ j : Nat, i = (j : Int) := ⟨i.toNat, by omega⟩
          have hj : j < ns.length := by omega
          have hcell : 0 ≤ ns[j] := hns _ (List.getElem_mem hj)
          walk_at "go"
          refine i_ixL (SqL.of hH) atI0 ?_
          walk_at "go"
          refine i_ixL (SqL.of hH) atI1 ?_
          walk_at "go"
          refine i_ixL (SqL.of (hS _ _ hc)) (atI_nat (v := .int ns[j]) (by rw [List.getElem?_map, List.getElem?_eq_getElem hj]; rfl)) ?_
          generalize ns[j] = cell at hcell ⊢
          walk_at "go"
          refine i_ixL (SqL.of hH) atI1 ?_
          walk_at "go"
          refine i_setL hH (j := 1) rfl ?_
          have g2 := Gr.setA (o := .lst [.ref c, .int ((j : Int) + 1), .int big, .int seed, .int n]) g0 bA hH
          have h2 : upd H a (.lst [.ref c, .int ((j : Int) + 1), .int big, .int seed, .int n]) a = some (.lst [.ref c, .int ((j : Int) + 1), .int big, .int seed, .int n]) := upd_same
          walk_at "go"
          refine i_ixL (SqL.of h2) atI3 ?_
          walk_at "go"
          refine i_rI (.inr ⟨by decide, by decide⟩) ?_
          walk_at "go"
          refine i_rI (by decide) ?_
          generalize e1 : (seed * 69621 + cell + 11) % 2147483629 = x1
          have p1 : 0 ≤ x1 := by rw [← e1]; exact Int.emod_nonneg _ (by decide)
          have p2 : x1 < 2147483629 := by rw [← e1]; exact Int.emod_lt_of_pos _ (by decide)
          walk_at "go"
          refine i_setL h2 (j := 3) rfl ?_
          have g3 := Gr.setA (o := .lst [.ref c, .int ((j : Int) + 1), .int big, .int x1, .int n]) g2 bA h2
          have h3 : upd (upd H a (.lst [.ref c, .int ((j : Int) + 1), .int big, .int seed, .int n])) a (.lst [.ref c, .int ((j : Int) + 1), .int big, .int x1, .int n]) a = some (.lst [.ref c, .int ((j : Int) + 1), .int big, .int x1, .int n]) := upd_same
          walk_at "go"
          refine i_rI ⟨by decide, by decide, by decide⟩ ?_
          walk_at "go"
          refine i_case (fun c3 => ?_) (fun c3 => ?_)
          · walk_at "go"
            refine i_setL h3 (j := 2) rfl ?_
            refine hr _ _ ⟨_, rfl, Gr.setA (o := .lst [.ref c, .int ((j : Int) + 1), .int cell, .int x1, .int n]) g3 bA h3, bA, c, ns, _, cell, x1, n, upd_same, hc, hns, by omega, hcell, p1, by omega, hn⟩
          · exact hr _ _ ⟨_, rfl, g3, bA, c, ns, _, big, x1, n, upd_same, hc, hns, by omega, hbig, p1, by omega, hn⟩
        · exact hr _ _ ⟨_, rfl, g0, bA, c, ns, i, big, seed, n, hH, hc, hns, hi, hbig, hs0, hs1, hn⟩
      · exact hr _ _ ⟨_, rfl, g0, bA, c, ns, i, big, seed, n, hH, hc, hns, hi, hbig, hs0, hs1, hn⟩
end

end K01
set_option maxRecDepth 100000
set_option maxHeartbeats 2000000
namespace K01
open PySem PySem.Spec PyProof.Rows L2 Us
/-! ### data, told twice -/
inductive TT where
  | v (x : V) | nil | cons (a b : TT) | tup (t : TT) | lst (t : TT)
def TT.isIt : TT → Bool
  | .v _ => true
  | .tup _ => true
  | .lst _ => true
  | _ => false
def TT.dep : TT → Nat
  | .cons a b => max a.dep b.dep
  | .tup t => 1 + t.dep
  | .lst t => 1 + t.dep
  | _ => 0
def TT.item : TT → Nat → Option TT
  | .cons a _, 0 => some a
  | .cons _ b, i + 1 => b.item i
  | _, _ => none
def TT.len : TT → Nat
  | .cons _ b => b.len + 1
  | _ => 0
def scV : V → Bool
  | .non => true
  | .bl _ => true
  | .int _ => true
  | .str _ => true
  | _ => false
/-- the values vs bear t -/
def Rep (B : Hp) : TT → List V → Prop
  | .v x, vs => vs = [x] ∧ scV x = true
  | .nil, vs => vs = []
  | .cons a b, vs => ∃ x ys, vs = x :: ys ∧ (a.isIt = true ∧ b.isIt = false) ∧ Rep B a [x] ∧ Rep B b ys
  | .tup t, vs => ∃ p us, vs = [.ref p] ∧ B p = some (.tup us) ∧ us.length ≤ 100000 ∧ t.isIt = false ∧ Rep B t us
  | .lst t, vs => ∃ p us, vs = [.ref p] ∧ B p = some (.lst us) ∧ us.length ≤ 100000 ∧ t.isIt = false ∧ Rep B t us
theorem Rep.mono {B B' : Hp} (s : Same B B') : ∀ {t : TT} {vs : List V}, Rep B t vs → Rep B' t vs
  | .v x, vs, h => h
  | .nil, vs, h => h
  | .cons a b, vs, h => by obtain ⟨x, ys, e, i, ha, hb⟩ := h; exact ⟨x, ys, e, i, ha.mono s, hb.mono s⟩
  | .tup t, vs, h => by obtain ⟨p, us, e, hp, l, i, r⟩ := h; exact ⟨p, us, e, s _ _ hp, l, i, r.mono s⟩
  | .lst t, vs, h => by obtain ⟨p, us, e, hp, l, i, r⟩ := h; exact ⟨p, us, e, s _ _ hp, l, i, r.mono s⟩
theorem Rep.get {B : Hp} : ∀ {t : TT} {vs : List V} {i : Nat}, Rep B t vs → t.isIt = false → i < vs.length → ∃ a x, t.item i = some a ∧ vs[i]? = some x ∧ a.isIt = true ∧ Rep B a [x] ∧ a.dep ≤ t.dep
  | .v x, vs, i, h, e, l => by cases e
  | .nil, vs, i, h, e, l => by cases h; cases l
  | .cons a b, vs, 0, h, e, l => by obtain ⟨x, ys, rfl, ia, ha, hb⟩ := h; exact ⟨a, x, rfl, rfl, ia.1, ha, Nat.le_max_left _ _⟩
  | .cons a b, vs, i + 1, h, e, l => by
    obtain ⟨x, ys, rfl, ia, ha, hb⟩ := h
    obtain ⟨c, y, e1, e2, e3, e4, e5⟩ := hb.get (i := i) ia.2 (by simpa using l)
    exact ⟨c, y, e1, by simpa using e2, e3, e4, Nat.le_trans e5 (Nat.le_max_right _ _)⟩
  | .tup t, vs, i, h, e, l => by cases e
  | .lst t, vs, i, h, e, l => by cases e
theorem Rep.leq {B B' : Hp} : ∀ {t : TT} {vs us : List V}, t.isIt = false → Rep B t vs → Rep B' t us → vs.length = us.length
  | .nil, vs, us, e, h, h' => by cases h; cases h'; rfl
  | .cons a b, vs, us, e, h, h' => by
    obtain ⟨x, ys, rfl, i, ha, hb⟩ := h
    obtain ⟨x', ys', rfl, i', ha', hb'⟩ := h'
    exact congrArg Nat.succ (Rep.leq i.2 hb hb')
  | .v x, vs, us, e, h, h' => by cases e
  | .tup t, vs, us, e, h, h' => by cases e
  | .lst t, vs, us, e, h, h' => by cases e
theorem scV_sh {K : PySem.W.Frag} {B : Hp} {x : V} (h : scV x = true) : Sh K B x := by
  cases x with
  | non => exact .non
  | bl b => exact .bl b
  | int i => exact .int i
  | str s => exact .str s
  | _ => cases h
theorem scV_sc {x : V} (h : scV x = true) : scal x x = true := by cases x <;> first | rfl | cases h
theorem scV_shB {B : Hp} {x : V} (h : scV x = true) : shB B x "tuple" = false ∧ shB B x "list" = false ∧ shB B x "dict" = false := by
  cases x with
  | non => exact ⟨rfl, rfl, rfl⟩
  | bl b => exact ⟨by show ("tuple" == "bool" || "tuple" == "int") = false; decide, by show ("list" == "bool" || "list" == "int") = false; decide, by show ("dict" == "bool" || "dict" == "int") = false; decide⟩
  | int i => exact ⟨by show ("tuple" == "int") = false; decide, by show ("list" == "int") = false; decide, by show ("dict" == "int") = false; decide⟩
  | str s => exact ⟨by show ("tuple" == "str") = false; decide, by show ("list" == "str") = false; decide, by show ("dict" == "str") = false; decide⟩
  | _ => cases h
theorem rep_two {B : Hp} {t : TT} {x y : V} (it : t.isIt = true) (rx : Rep B t [x]) (ry : Rep B t [y]) : (x = y ∧ scV x = true) ∨ ∃ t' px py us ws, t.dep = 1 + t'.dep ∧ x = .ref px ∧ y = .ref py ∧ ((B px = some (.tup us) ∧ B py = some (.tup ws)) ∨ (B px = some (.lst us) ∧ B py = some (.lst ws))) ∧ us.length = ws.length ∧ ws.length ≤ 100000 ∧
    t'.isIt = false ∧ Rep B t' us ∧ Rep B t' ws := by
  cases t with
  | nil => cases it
  | cons a b => cases it
  | v z =>
    obtain ⟨e, sz⟩ := rx
    cases e
    obtain ⟨e, _⟩ := ry
    cases e
    exact .inl ⟨rfl, sz⟩
  | tup t' =>
    obtain ⟨px, us, e, hp, l, i, r⟩ := rx
    cases e
    obtain ⟨py, ws, e, hp', l', i', r'⟩ := ry
    cases e
    exact .inr ⟨t', px, py, us, ws, rfl, rfl, rfl, .inl ⟨hp, hp'⟩, Rep.leq i r r', l', i, r, r'⟩
  | lst t' =>
    obtain ⟨px, us, e, hp, l, i, r⟩ := rx
    cases e
    obtain ⟨py, ws, e, hp', l', i', r'⟩ := ry
    cases e
    exact .inr ⟨t', px, py, us, ws, rfl, rfl, rfl, .inr ⟨hp, hp'⟩, Rep.leq i r r', l', i, r, r'⟩
def spIs (K : PySem.W.Frag) (n : Nat) : Sp := fun vs H Q _ => ∃ B x y t, vs = [x, y] ∧ Same B H ∧ t.isIt = true ∧ Rep B t [x] ∧ Rep B t [y] ∧ t.dep < n ∧ ∀ B' H', Gr [] B H B' H' → Q (.bl true) H'
section
variable {P : Program} {w : World} {K : PySem.W.Frag} {mg : Str → Option Value} {base : Heap}
/-- a sequence of either kind, compared item by item -/
theorem is_step {n : Nat} (Dlaw_is : DefOk P w K mg base CX0 (n + 1) "_law_is" p_law_is (spIs K n)) (T : Txt K mg) : DefOk P w K mg base CX0 (n + 2) "_law_is" p_law_is (spIs K (n + 1)) := by
  refine T.d_law_is.ok sc_law_is (fun _ _ _ _ _ _ us hl => match us, hl with | [_, _], _ => rfl) (fun vs H Q E h => ?_) (fun f cdv A outer s H vs Q E hr h => ?_)
  · obtain ⟨B, x, y, t, rfl, _⟩ := h
    rfl
  · obtain ⟨B, x, y, t, rfl, hS, it, rx, ry, hd, k⟩ := h
    refine ⟨_, PSs.nox (pss_cons (ps_if (pt_val (pe_callB call_isiT (by rfl) T.f_isinstance (by decide +kernel) (pa_cons (pv 1) (pa_cons (pe_tup (pa_cons (pe_bltn (v := .ty "tuple") (by rfl) T.f_tuple (by decide +kernel) rfl) (pa_cons (pe_bltn (v := .ty "list") (by rfl) T.f_list (by decide +kernel) rfl) pa_nil))) pa_nil))))
      (pss_cons (ps_if (PW.pt (pw_or (pt_cmpR op_ne (pe_callB call_isi (by rfl) T.f_isinstance (by decide +kernel) (pa_cons (pv 0) (pa_cons (pe_bltn (v := .ty "tuple") (by rfl) T.f_tuple (by decide +kernel) rfl) pa_nil))) (pe_callB call_isi (by rfl) T.f_isinstance (by decide +kernel) (pa_cons (pv 1) (pa_cons (pe_bltn (v := .ty "tuple") (by rfl) T.f_tuple (by decide +kernel) rfl) pa_nil))) (nomark _)) (pw_or1 (pt_cmpR op_ne (pe_callB call_isi (by rfl) T.f_isinstance (by decide +kernel) (pa_cons (pv 0) (pa_cons (pe_bltn (v := .ty "list") (by rfl) T.f_list (by decide +kernel) rfl) pa_nil))) (pe_callB call_isi (by rfl) T.f_isinstance (by decide +kernel) (pa_cons (pv 1) (pa_cons (pe_bltn (v := .ty "list") (by rfl) T.f_list (by decide +kernel) rfl) pa_nil))) (nomark _)))))
        (pss_one (ps_ret pe_bl))
        pss_nil)
      (pss_one (ps_ret (pe_and (pe_cmpR op_eq (pe_callB call_lenU (by rfl) T.f_len (by decide +kernel) (pa_cons (pv 0) pa_nil)) (pe_callB call_lenU (by rfl) T.f_len (by decide +kernel) (pa_cons (pv 1) pa_nil)) (nomark _)) (pe_one (pe_callB (cr_all rfl) (by rfl) T.f_all (by decide +kernel) (pa_cons (pe_lc (own := [("_law_k", 2)]) (g := gName 2) (tt := tYes) rfl sc_law_is.nd (pi_range1 (by rfl) T.f_range (pa_cons (pe_callB call_lenU (by rfl) T.f_len (by decide +kernel) (pa_cons (pv 1) pa_nil)) pa_nil)) (blkOk_by (own := [("_law_k", 2)]) (N := n_law_is) (sc := defScope s_law_is) (by decide +kernel)) (fun _ _ _ _ _ => (pg_name (i := 2) sc_law_is.nd rfl (Or.inl rfl))) (fun _ _ _ _ _ => pts_nil) (fun _ _ _ _ _ => (pe_callD Dlaw_is (hr.mono (by first | decide | omega)) rfl pass0 (pa_cons (pe_ix (r := rIx K) ix_seq (pv 0) (pv 2) (fun _ _ => rfl)) (pa_cons (pe_ix (r := rIx K) ix_seq (pv 1) (pv 2) (fun _ _ => rfl)) pa_nil))))) pa_nil)))))))
      pss_nil)
    (pss_cons (ps_if (pt_val (pe_callB call_isi (by rfl) T.f_isinstance (by decide +kernel) (pa_cons (pv 1) (pa_cons (pe_bltn (v := .ty "dict") (by rfl) T.f_dict (by decide +kernel) rfl) pa_nil))))
      (pss_one (ps_ret (pe_and (pe_callB call_isi (by rfl) T.f_isinstance (by decide +kernel) (pa_cons (pv 0) (pa_cons (pe_bltn (v := .ty "dict") (by rfl) T.f_dict (by decide +kernel) rfl) pa_nil))) (pe_and (pe_cmpR op_eq (pv 0) (pv 1) (nomark _)) (pe_one (pe_callB (cr_all rfl) (by rfl) T.f_all (by decide +kernel) (pa_cons (pe_lc (own := [("_law_key", 3)]) (g := gName 3) (tt := tYes) rfl sc_law_is.nd (pi_list (pv 1)) (blkOk_by (own := [("_law_key", 3)]) (N := n_law_is) (sc := defScope s_law_is) (by decide +kernel)) (fun _ _ _ _ _ => (pg_name (i := 3) sc_law_is.nd rfl (Or.inl rfl))) (fun _ _ _ _ _ => pts_nil) (fun _ _ _ _ _ => (pe_callD Dlaw_is (hr.mono (by first | decide | omega)) rfl pass0 (pa_cons (pe_ix (r := rIx K) ix_seq (pv 0) (pv 3) (fun _ _ => rfl)) (pa_cons (pe_ix (r := rIx K) ix_seq (pv 1) (pv 3) (fun _ _ => rfl)) pa_nil))))) pa_nil)))))))
      pss_nil)
    (pss_one (ps_ret (pe_and (pe_cmpR op_eq (pe_callB call_isi (by rfl) T.f_isinstance (by decide +kernel) (pa_cons (pv 0) (pa_cons (pe_bltn (v := .ty "bool") (by rfl) T.f_bool (by decide +kernel) rfl) pa_nil))) (pe_callB call_isi (by rfl) T.f_isinstance (by decide +kernel) (pa_cons (pv 1) (pa_cons (pe_bltn (v := .ty "bool") (by rfl) T.f_bool (by decide +kernel) rfl) pa_nil))) (nomark _)) (pe_one (pe_cmpR op_eq (pv 0) (pv 1) (nomark _)))))))), ?_⟩
    walk_at "go"
    refine ⟨sz5 (by simp), fun p hp => ?_⟩
    have g1 : Gr [] B H B (upd H p (.tup [.ty "tuple", .ty "list"])) := Gr.cell hS hp
    have hS1 := g1.bh
    walk_at "go"
    rcases rep_two it rx ry with ⟨rfl, sz⟩ | ⟨t', px, py, us, ws, ed, rfl, rfl, sq, le, lz, it', ru, rw'⟩
    · obtain ⟨n1, n2, n3⟩ := scV_shB (B := B) sz
      have sh : Sh K B x := scV_sh sz
      refine i_isiT2 hS1 sh upd_same ?_ (by decide) (by decide)
      rw [n1, n2]
      refine i_bl (b := false) ?_
      walk_at "go"
      rw [n3]
      refine iteF ?_
      walk_at "go"
      have e1 : decide (V.bl (shB B x "bool") = V.bl (shB B x "bool")) = true := by simp
      rw [e1]
      refine iteT ?_
      walk_at "go"
      refine i_eq (scV_sc sz) ?_
      have e2 : decide (x = x) = true := by simp
      rw [e2]
      exact k _ _ g1
    · have shx : Sh K B (.ref px) := by rcases sq with ⟨a, _⟩ | ⟨a, _⟩; exact .tup a; exact .lst a
      have shy : Sh K B (.ref py) := by rcases sq with ⟨_, a⟩ | ⟨_, a⟩; exact .tup a; exact .lst a
      have e1 : shB B (.ref px) "tuple" = shB B (.ref py) "tuple" := by rcases sq with ⟨a, b⟩ | ⟨a, b⟩; exact (shB_tup a).trans (shB_tup b).symm; exact (shB_lst a).trans (shB_lst b).symm
      have e2 : shB B (.ref px) "list" = shB B (.ref py) "list" := by rcases sq with ⟨a, b⟩ | ⟨a, b⟩; exact (shB_tup a).trans (shB_tup b).symm; exact (shB_lst a).trans (shB_lst b).symm
      have e3 : (shB B (.ref py) "tuple" || shB B (.ref py) "list") = true := by rcases sq with ⟨a, b⟩ | ⟨a, b⟩; rw [shB_tup b, shB_tup b]; decide; rw [shB_lst b, shB_lst b]; decide
      have sx : ∀ {H' : Hp}, Same B H' → H' px = some (.tup us) ∨ H' px = some (.lst us) := fun s => by rcases sq with ⟨a, _⟩ | ⟨a, _⟩; exact .inl (s _ _ a); exact .inr (s _ _ a)
      have sy : ∀ {H' : Hp}, Same B H' → H' py = some (.tup ws) ∨ H' py = some (.lst ws) := fun s => by rcases sq with ⟨_, a⟩ | ⟨_, a⟩; exact .inl (s _ _ a); exact .inr (s _ _ a)
      refine i_isiT2 hS1 shy upd_same ?_ (by decide) (by decide)
      rw [e3]
      refine i_bl (b := true) ?_
      walk_at "go"
      have n1 : (!decide (V.bl (shB B (.ref px) "tuple") = V.bl (shB B (.ref py) "tuple"))) = false := by rw [e1]; simp
      have n2 : (!decide (V.bl (shB B (.ref px) "list") = V.bl (shB B (.ref py) "list"))) = false := by rw [e2]; simp
      rw [n1]
      refine iteF ?_
      walk_at "go"
      rw [n2]
      refine iteF ?_
      walk_at "go"
      refine i_lenA (sx hS1) ?_
      walk_at "go"
      refine i_lenA (sy hS1) ?_
      walk_at "go"
      have e4 : decide (V.int (us.length : Int) = V.int (ws.length : Int)) = true := by rw [le]; simp
      rw [e4]
      refine iteT ?_
      walk_at "go"
      refine i_lenA (sy hS1) ?_
      walk_at "go"
      refine ⟨_, rfl, by omega, by omega, fun D hD => lc_range (lo := 0) (n := ((ws.length : Int)).toNat) (fun i H' => ∃ B', Gr [] B H B' H' ∧ B' D = none ∧ H' D = some (.lst (List.replicate i (V.bl true))))
        ⟨B, g1.trans (Gr.cell hS1 hD), bfresh hS1 hD, upd_same⟩ ?_ ?_⟩
      · rintro i H' hi ⟨B', g, bD, hDl⟩
        have hi2 : i < ws.length := by omega
        obtain ⟨a, x', ia, ux, it2, ra, da⟩ := ru.get it' (i := i) (by omega)
        obtain ⟨b, y', ib, uy, _, rb, _⟩ := rw'.get it' (i := i) hi2
        rw [ia] at ib
        cases ib
        have s2 : Same B H' := g.bb.trans g.bh
        walk_at "go"
        refine ⟨rfl, ?_⟩
        walk_at "go"
        refine i_ixA (sx s2) (atN ux) ?_
        walk_at "go"
        refine i_ixA (sy s2) (atN uy) ?_
        walk_at "go"
        refine ⟨B', x', y', a, rfl, g.bh, it2, ra.mono g.bb, rb.mono g.bb, by omega, fun B2 H2 g2 => ?_⟩
        have g3 := g.trans g2
        have b3 := g2.bnone bD hDl
        refine ⟨_, g2.keep _ _ (by simp) hDl, sz5' (by rw [List.length_replicate]; omega), B2, g3.setN (g1.fresh hD) b3, b3, ?_⟩
        rw [upd_same, List.replicate_succ']
      · rintro H' ⟨B', g, bD, hDl⟩
        walk_at "go"
        refine i_all (bs := List.replicate ((ws.length : Int)).toNat true) (SqL.of (by rw [hDl, List.map_replicate])) ?_
        have e5 : (List.replicate ((ws.length : Int)).toNat true).all id = true := by rw [List.all_eq_true]; intro b hb; exact (List.mem_replicate.mp hb).2
        rw [e5]
        exact k _ _ g
theorem is_no (T : Txt K mg) : DefOk P w K mg base CX0 1 "_law_is" p_law_is (spIs K 0) := by
  refine T.d_law_is.ok sc_law_is (fun _ _ _ _ _ _ us hl => match us, hl with | [_, _], _ => rfl) (fun vs H Q E h => ?_) (fun f cdv A outer s H vs Q E hr h => ?_)
  · obtain ⟨B, x, y, t, rfl, _⟩ := h
    rfl
  · obtain ⟨B, x, y, t, rfl, hS, it, rx, ry, hd, k⟩ := h
    exact absurd hd (Nat.not_lt_zero _)
theorem ok_is (T : Txt K mg) : ∀ n, DefOk P w K mg base CX0 (n + 1) "_law_is" p_law_is (spIs K n)
  | 0 => is_no T
  | n + 1 => is_step (ok_is T n) T
end

end K01
set_option maxRecDepth 100000
set_option maxHeartbeats 2000000
namespace K01
open PySem PySem.Spec PyProof.Rows L2 Us
def absI (x : Int) : Int := if x < 0 then -x else x
theorem absI_nn (x : Int) : 0 ≤ absI x := by unfold absI; split <;> omega
def spHand (K : PySem.W.Frag) : Sp := fun vs H Q _ => ∃ (a : Addr) (ns : List Int), vs = [.ref a] ∧ SqL K H a (ns.map V.int) ∧ ns.length ≤ 63 ∧ ∀ B' H' p, Gr [] H H B' H' → H p = none → HandAt B' H' p → Q (.ref p) H'
def spSome (K : PySem.W.Frag) : Sp := fun vs H Q _ => ∃ B a p xs, vs = [.ref a, .ref p] ∧ Same B H ∧ HandAt B H a ∧ B p = some (.lst xs) ∧ 0 < xs.length ∧ xs.length < 1000000 ∧ ∀ H' x, Gr [a] B H B H' → HandAt B H' a → x ∈ xs → Q x H'
def spFlag (K : PySem.W.Frag) : Sp := fun vs H Q _ => ∃ a b, vs = [.bl a, .bl b] ∧ Q (.bl (a == b)) H
def spDeep (K : PySem.W.Frag) : Sp := fun vs H Q _ => ∃ B k, vs = [.int k] ∧ Same B H ∧ ∀ B' H' v, Gr [] B H B' H' → (∃ p us, v = .ref p ∧ us.length ≤ 1 ∧ Seq B' p us ∧ ∀ u ∈ us, Sh K B' u) → Q v H'
section
variable {P : Program} {w : World} {K : PySem.W.Frag} {mg : Str → Option Value} {base : Heap}
theorem ok_hand (T : Txt K mg) : DefOk P w K mg base CX0 1 "_law_hand" p_law_hand (spHand K) := by
  refine T.d_law_hand.ok sc_law_hand (fun _ _ _ _ _ _ us hl => match us, hl with | [_], _ => rfl) (fun vs H Q E h => ?_) (fun f cdv A outer s H vs Q E hr h => ?_)
  · obtain ⟨a, ns, rfl, _⟩ := h
    rfl
  · obtain ⟨a, ns, rfl, hL, hn, k⟩ := h
    refine ⟨_, PSs.nox (pss_cons (ps_setLc (i := 1) (own := [("_law_cell", 2)]) (g := gName 2) (tt := tYes) rfl sc_law_hand.nd rfl rfl (sw_true rfl rfl rfl (by decide +kernel)) (pi_list (pe_slice sl_list (pv 0) po_none (po_some pe_int))) (blkOk_by (own := [("_law_cell", 2)]) (N := n_law_hand) (sc := defScope s_law_hand) (by decide +kernel)) (fun _ _ _ _ _ => (pg_name (i := 2) sc_law_hand.nd rfl (Or.inl rfl))) (fun _ _ _ _ _ => pts_nil) (fun _ _ _ _ _ => (pe_callB call_absU (by rfl) T.f_abs (by decide +kernel) (pa_cons (pe_callTy call_intU (by rfl) T.f_int (by decide +kernel) (pa_cons (pv 2) pa_nil)) pa_nil))))
    (pss_one (ps_ret (pe_lst (pa_cons (pv 1) (pa_cons pe_int (pa_cons pe_int (pa_cons (pe_op op_add pe_int (pe_callB call_lenU (by rfl) T.f_len (by decide +kernel) (pa_cons (pv 1) pa_nil))) (pa_cons pe_int pa_nil))))))))), ?_⟩
    have S0 : Same H H := Same.refl H
    walk_at "go"
    refine ⟨a, _, rfl, hL, fun q hq => ?_⟩
    have ec : ∃ ms : List Int, cutV (ns.map V.int) none (some 63) = ms.map V.int ∧ ms.length ≤ 63 := by
      unfold cutV
      rw [← List.map_drop, ← List.map_take]
      refine ⟨_, rfl, ?_⟩
      rw [List.length_take, List.length_drop]
      omega
    obtain ⟨ms, ec, hms⟩ := ec
    rw [ec]
    have g1 : Gr [] H H (upd H q (.lst (ms.map V.int))) (upd H q (.lst (ms.map V.int))) := Gr.new S0 hq
    refine ⟨q, rfl, ⟨_, SqL.of upd_same⟩, fun D hD => lc_list (K := K) (a := q) (xs := ms.map V.int) (fun i H' => Gr [] H H (upd H q (.lst (ms.map V.int))) H' ∧ H' D = some (.lst (((ms.take i).map absI).map V.int)))
      ⟨g1.trans (Gr.cell g1.bh hD), upd_same⟩ (fun i H' _ h => SqL.of (h.1.bh _ _ upd_same)) ?_ ?_⟩
    · rintro i x H' hx ⟨g, hDl⟩
      obtain ⟨z, hz, rfl⟩ : ∃ z, ms[i]? = some z ∧ x = V.int z := by
        rw [List.getElem?_map] at hx
        cases e : ms[i]? with
        | none => rw [e] at hx; cases hx
        | some z => rw [e] at hx; exact ⟨z, rfl, (Option.some.inj hx).symm⟩
      walk_at "go"
      refine ⟨rfl, ?_⟩
      walk_at "go"
      refine i_abs ?_
      have hi : i < ms.length := (List.getElem?_eq_some_iff.mp hz).1
      have bD := bfresh g1.bh hD
      refine ⟨_, hDl, sz5' (by simp only [List.length_map, List.length_take]; omega), g.setN (g1.fresh hD) bD, ?_⟩
      rw [upd_same, List.take_add_one, hz]
      simp [absI]
    · rintro H' ⟨g, hDl⟩
      rw [show (ms.map V.int).length = ms.length by simp, List.take_length] at hDl
      have bD := bfresh g1.bh hD
      have g2 := g.keepN (g1.fresh hD) hDl bD
      walk_at "go"
      refine i_lenL (SqL.of hDl) ?_
      walk_at "go"
      refine ⟨sz5 (by simp), fun p hp => ?_⟩
      have g3 := g2.trans (Gr.cell (o := .lst [.ref D, .int 0, .int 0, .int (1 + (((ms.map absI).map V.int).length : Int)), .int 0]) g2.bh hp)
      refine k _ _ p g3 (g2.fresh hp) ⟨bfresh g2.bh hp, D, ms.map absI, 0, 0, _, 0, upd_same, upd_same, ?_, by decide, by decide, by omega, ?_, by decide⟩
      · intro x hx
        obtain ⟨y, _, rfl⟩ := List.mem_map.mp hx
        exact absI_nn y
      · simp only [List.length_map]; omega
theorem ok_some (T : Txt K mg) (Dlaw_draw : DefOk P w K mg base CX0 1 "_law_draw" p_law_draw (spDraw K)) : DefOk P w K mg base CX0 2 "_law_some" p_law_some (spSome K) := by
  refine T.d_law_some.ok sc_law_some (fun _ _ _ _ _ _ us hl => match us, hl with | [_, _], _ => rfl) (fun vs H Q E h => ?_) (fun f cdv A outer s H vs Q E hr h => ?_)
  · obtain ⟨B, a, p, xs, rfl, _⟩ := h
    rfl
  · obtain ⟨B, a, p, xs, rfl, hS, hA, hp, h0, h1, k⟩ := h
    refine ⟨_, PSs.nox (pss_one (ps_ret (pe_ix ix_list (pv 1) (pe_callD Dlaw_draw (hr.mono (by first | decide | omega)) rfl pass0 (pa_cons (pv 0) (pa_cons (pe_callB call_lenU (by rfl) T.f_len (by decide +kernel) (pa_cons (pv 1) pa_nil)) pa_nil))) (fun _ _ => rfl)))), ?_⟩
    walk_at "go"
    refine i_lenL (SqL.of (hS _ _ hp)) ?_
    walk_at "go"
    refine ⟨B, a, _, rfl, by omega, by omega, hS, hA, fun H' d g hA' d0 d1 => ?_⟩
    obtain ⟨j, rfl⟩ : ∃ j : Nat, d = (j : Int) := ⟨d.toNat, by omega⟩
    have hj : j < xs.length := by omega
    refine i_ixL (SqL.of (g.bh _ _ hp)) (atI_nat (List.getElem?_eq_getElem hj)) ?_
    exact k _ _ g hA' (List.getElem_mem hj)
theorem ok_flag (T : Txt K mg) : DefOk P w K mg base CX0 1 "_law_flag" p_law_flag (spFlag K) := by
  refine T.d_law_flag.ok sc_law_flag (fun _ _ _ _ _ _ us hl => match us, hl with | [_, _], _ => rfl) (fun vs H Q E h => ?_) (fun f cdv A outer s H vs Q E hr h => ?_)
  · obtain ⟨a, b, rfl, _⟩ := h
    rfl
  · obtain ⟨a, b, rfl, k⟩ := h
    refine ⟨_, PSs.nox (pss_one (ps_ret (pe_and (pe_callB call_isi (by rfl) T.f_isinstance (by decide +kernel) (pa_cons (pv 0) (pa_cons (pe_bltn (v := .ty "bool") (by rfl) T.f_bool (by decide +kernel) rfl) pa_nil))) (pe_one (pe_cmpR op_eq (pv 0) (pv 1) (nomark _)))))), ?_⟩
    have S0 : Same H H := Same.refl H
    have sh : Sh K H (.bl a) := .bl a
    walk_at "go"
    have e : shB H (.bl a) "bool" = true := by show ("bool" == "bool" || "bool" == "int") = true; decide
    rw [e]
    refine iteT ?_
    walk_at "go"
    rw [dB]
    exact k
theorem ok_deep (T : Txt K mg) : DefOk P w K mg base CX0 1 "_law_deep" p_law_deep (spDeep K) := by
  refine T.d_law_deep.ok sc_law_deep (fun _ _ _ _ _ _ us hl => match us, hl with | [_], _ => rfl) (fun vs H Q E h => ?_) (fun f cdv A outer s H vs Q E hr h => ?_)
  · obtain ⟨B, k, rfl, _⟩ := h
    rfl
  · obtain ⟨B, n, rfl, hS, k⟩ := h
    refine ⟨_, PSs.nox (pss_cons (ps_set (i := 1) sc_law_deep.nd rfl (Or.inl rfl) pe_non)
    (pss_cons (ps_for PassesOwn.never rfl (pi_range1 (by rfl) T.f_range (pa_cons pe_int pa_nil)) (pg_name (i := 2) sc_law_deep.nd rfl (Or.inl rfl))
      (pss_one (ps_set (i := 1) sc_law_deep.nd rfl (Or.inl rfl) (pe_ifExp (pt_cmpR op_eq (pv 0) pe_int (nomark _)) (pe_lst (pa_cons (pv 1) pa_nil)) (pe_tup (pa_cons (pv 1) pa_nil))))))
    (pss_one (ps_ret (pv 1))))), ?_⟩
    walk_at "go"
    refine ⟨36, rfl, by decide, by decide, for_range (lo := 0) (n := 36) (fun i σ H' => ∃ B' v v1, σ = [some (.int n), some v, v1] ∧ Gr [] B H B' H' ∧ Sh K B' v ∧ (i = 0 ∨ ∃ p us, v = .ref p ∧ us.length ≤ 1 ∧ Seq B' p us ∧ ∀ u ∈ us, Sh K B' u)) ⟨B, .non, none, rfl, Gr.refl hS, .non, .inl rfl⟩ ?_ ?_⟩
    · rintro i σ H' hi ⟨B', v, v1, rfl, g, sv, _⟩
      walk_at "go"
      rw [dI]
      refine i_case (fun c => ?_) (fun c => ?_)
      · walk_at "go"
        refine ⟨sz5 (by simp), fun p hp => ?_⟩
        walk_at "go"
        have s2 := Gr.new (ms := []) (o := .lst [v]) g.bh hp
        exact ⟨_, .ref p, _, rfl, g.trans s2, .lst upd_same, .inr ⟨p, [v], rfl, Nat.le_refl _, .inl upd_same, fun u hu => by rw [List.mem_singleton.mp hu]; exact sv.mono s2.bb⟩⟩
      · walk_at "go"
        refine ⟨sz5 (by simp), fun p hp => ?_⟩
        walk_at "go"
        have s2 := Gr.new (ms := []) (o := .tup [v]) g.bh hp
        exact ⟨_, .ref p, _, rfl, g.trans s2, .tup upd_same, .inr ⟨p, [v], rfl, Nat.le_refl _, .inr upd_same, fun u hu => by rw [List.mem_singleton.mp hu]; exact sv.mono s2.bb⟩⟩
    · rintro σ H' ⟨B', v, v1, rfl, g, sv, hv⟩
      walk_at "go"
      exact k _ _ _ g (hv.resolve_left (by decide))
end

end K01
set_option maxRecDepth 100000
set_option maxHeartbeats 2000000
namespace K01
open PySem PySem.Spec PyProof.Rows L2 Us
open Classical in
noncomputable def genB (ms : List Nat) (n : Nat) : Bool := decide (Gen ms n)
open Classical in
theorem genB_iff {ms : List Nat} {n : Nat} : genB ms n = true ↔ Gen ms n := by unfold genB; exact decide_eq_true_iff
theorem genB_no {ms : List Nat} {n : Nat} (h : ¬ Gen ms n) : genB ms n = false := by
  cases e : genB ms n with
  | false => rfl
  | true => exact absurd (genB_iff.mp e) h
theorem genB_zero (ms : List Nat) : genB ms 0 = true := genB_iff.mpr Gen.zero
theorem genB_rec {ms : List Nat} (hp : ∀ m ∈ ms, 0 < m) {x : Nat} (hx : 0 < x) : (ms.map fun m => decide (m ≤ x) && genB ms (x - m)).any id = genB ms x := by
  rw [List.any_map]
  by_cases g : Gen ms x
  · rw [genB_iff.mpr g, List.any_eq_true]
    obtain ⟨m, hm, hl, g'⟩ := (gen_rec hp hx).mp g
    exact ⟨m, hm, by show (decide (m ≤ x) && genB ms (x - m)) = true; rw [decide_eq_true hl, genB_iff.mpr g']; rfl⟩
  · rw [genB_no g, List.any_eq_false]
    intro m hm h
    have h' : (decide (m ≤ x) && genB ms (x - m)) = true := h
    rw [Bool.and_eq_true] at h'
    exact g ((gen_rec hp hx).mpr ⟨m, hm, of_decide_eq_true h'.1, genB_iff.mp h'.2⟩)
theorem genB_congr {ms ns : List Nat} (h : ∀ x, Gen ms x ↔ Gen ns x) : genB ms = genB ns := funext fun x => by
  by_cases g : Gen ms x
  · rw [genB_iff.mpr g, genB_iff.mpr ((h x).mp g)]
  · rw [genB_no g, genB_no fun z => g ((h x).mpr z)]
def spSums (K : PySem.W.Frag) : Sp := fun vs H Q _ => ∃ (B : Hp) (p : Addr) (ms : List Nat) (N : Nat), vs = [.ref p, .int (N : Int)] ∧ Same B H ∧ B p = some (.tup (ms.map nV)) ∧ (∀ m ∈ ms, 0 < m) ∧ ms.length ≤ 1000 ∧ N ≤ 2000 ∧ ∀ B' H' q, Gr [] B H B' H' → B' q = some (.lst (((List.range (N + 1)).map (genB ms)).map V.bl)) → Q (.ref q) H'
section
variable {P : Program} {w : World} {K : PySem.W.Frag} {mg : Str → Option Value} {base : Heap}
theorem ok_sums (T : Txt K mg) : DefOk P w K mg base CX0 1 "_law_sums" p_law_sums (spSums K) := by
  refine T.d_law_sums.ok sc_law_sums (fun _ _ _ _ _ _ us hl => match us, hl with | [_, _], _ => rfl) (fun vs H Q E h => ?_) (fun fa cdv A outer s H vs Q E hr h => ?_)
  · obtain ⟨B, p, ms, N, rfl, _⟩ := h
    rfl
  · obtain ⟨B, p, ms, N, rfl, hS, hp, hpos, hz, hN, k⟩ := h
    refine ⟨_, PSs.nox (pss_cons (ps_set (i := 2) sc_law_sums.nd rfl (Or.inr rfl) (pe_lst (pa_cons pe_bl pa_nil)))
    (pss_cons (ps_for PassesOwn.never rfl (pi_range2 (by rfl) T.f_range (pa_cons pe_int (pa_cons (pe_op op_add (pv 1) pe_int) pa_nil))) (pg_name (i := 3) sc_law_sums.nd rfl (Or.inr rfl))
      (pss_one (ps_expr (pe_bm PySem.F.plainAttrs_list PySem.F.slot_list_append PySem.F.type_list_append mt_append (pv 2) (pa_cons (pe_callB (cr_any rfl) (by rfl) T.f_any (by decide +kernel) (pa_cons (pe_lc (own := [("_law_maker", 4)]) (g := gName 4) (tt := tYes) rfl sc_law_sums.nd (pi_tup (pv 0)) (blkOk_by (own := [("_law_maker", 4)]) (N := n_law_sums) (sc := defScope s_law_sums) (by decide +kernel)) (fun _ _ _ _ _ => (pg_name (i := 4) sc_law_sums.nd rfl (Or.inl rfl))) (fun _ _ _ _ _ => pts_nil) (fun _ _ _ _ _ => (pe_and (pe_cmpR op_le (pv 4) (pv 3) (nomark _)) (pe_one (pe_ix (r := rIxL K) ix_list (pv 2) (pe_op op_sub (pv 3) (pv 4)) (fun _ _ => rfl)))))) pa_nil)) pa_nil)))))
    (pss_one (ps_ret (pv 2))))), ?_⟩
    walk_at "go"
    refine ⟨sz5 (by simp), fun q hq => ?_⟩
    have g0 : Gr [] B H B (upd H q (.lst [.bl true])) := Gr.cell hS hq
    have o0 := Own.cell (o := .lst [.bl true]) hS hq
    walk_at "go"
    refine ⟨1, _, rfl, by omega, for_range (lo := 1) (n := ((N : Int) + 1 - 1).toNat) (fun i σ H' => ∃ r1 r2, σ = [some (.ref p), some (.int (N : Int)), some (.ref q), r1, r2] ∧ Gr [] B H B H' ∧ Own B H' q (.lst (((List.range (i + 1)).map (genB ms)).map V.bl)))
      ⟨none, none, rfl, g0, by simpa [genB_zero] using o0⟩ ?_ ?_⟩
    · rintro i σ H1 hi ⟨r1, r2, rfl, g, o⟩
      have ei : (1 : Int) + (i : Int) = ((i + 1 : Nat) : Int) := by omega
      rw [ei]
      walk_at "go"
      refine ⟨tyL o.2, ?_⟩
      walk_at "go"
      refine ⟨p, rfl, ⟨_, SqT.of (g.bh _ _ hp)⟩, fun D hD => lc_tup (K := K) (a := p) (xs := ms.map nV) (fun j H' => Gr [] B H B H' ∧ Own B H' D (.lst (((ms.take j).map fun m => decide (m ≤ i + 1) && genB ms (i + 1 - m)).map V.bl)) ∧ Own B H' q (.lst (((List.range (i + 1)).map (genB ms)).map V.bl))) ⟨g.trans (Gr.cell g.bh hD), Own.cell g.bh hD, o.up (Gr.cell g.bh hD)⟩ (fun i H' _ h => SqT.of (h.1.bh _ _ hp)) ?_ ?_⟩
      · rintro j x H2 hx ⟨g2, o2, o3⟩
        obtain ⟨m, hm, rfl⟩ : ∃ m, ms[j]? = some m ∧ x = nV m := by
          rw [List.getElem?_map] at hx
          cases e : ms[j]? with
          | none => rw [e] at hx; cases hx
          | some m => rw [e] at hx; exact ⟨m, rfl, (Option.some.inj hx).symm⟩
        have hj : j < ms.length := (List.getElem?_eq_some_iff.mp hm).1
        have hD0 : H D = none := g.fresh hD
        have hqD : q ≠ D := fun z => by rw [← z, o.2] at hD; cases hD
        have fin : ∀ b, (decide (m ≤ i + 1) && genB ms (i + 1 - m)) = b → ∃ acc, H2 D = some (.lst acc) ∧ acc.length < sizeLine ∧ Gr [] B H B (upd H2 D (.lst (acc ++ [.bl b]))) ∧ Own B (upd H2 D (.lst (acc ++ [.bl b]))) D (.lst (((ms.take (j + 1)).map fun m => decide (m ≤ i + 1) && genB ms (i + 1 - m)).map V.bl)) ∧ Own B (upd H2 D (.lst (acc ++ [.bl b]))) q (.lst (((List.range (i + 1)).map (genB ms)).map V.bl)) := fun b hb =>
          ⟨_, o2.2, sz5' (by simp; omega), g2.put hD0 o2, ⟨o2.1, by rw [upd_same, List.take_add_one, hm, ← hb]; simp⟩, Own.other (v := .lst []) o3 (Ne.symm hqD)⟩
        walk_at "go"
        refine ⟨rfl, ?_⟩
        walk_at "go"
        rw [show decide ((m : Int) ≤ ((i + 1 : Nat) : Int)) = decide (m ≤ i + 1) by by_cases h : m ≤ i + 1 <;> simp [h] <;> omega]
        cases hc : decide (m ≤ i + 1) with
        | false =>
          walk_at "go"
          exact fin false (by rw [hc]; rfl)
        | true =>
          have hle := of_decide_eq_true hc
          walk_at "go"
          have hmp := hpos m (List.mem_of_getElem? hm)
          refine i_ixL (SqL.of o3.2) (by rw [show ((i + 1 : Nat) : Int) - (m : Int) = ((i + 1 - m : Nat) : Int) by omega]; exact atI_nat (v := .bl (genB ms (i + 1 - m))) (by rw [List.map_map, List.getElem?_map, List.getElem?_range (by omega)]; rfl)) ?_
          exact fin _ (by rw [hc]; rfl)
      · rintro H2 ⟨g2, o2, o3⟩
        rw [show (ms.map nV).length = ms.length by simp, List.take_length] at o2
        walk_at "go"
        refine i_any (SqL.of o2.2) ?_
        rw [genB_rec hpos (Nat.succ_pos i)]
        walk_at "go"
        refine i_app o3.2 (sz5' (by simp; omega)) ?_
        refine ⟨_, _, rfl, g2.put hq o3, o3.1, ?_⟩
        rw [upd_same, List.range_succ (n := i + 1)]
        simp
    · rintro σ H1 ⟨r1, r2, rfl, g, o⟩
      rw [show ((N : Int) + 1 - 1).toNat = N by omega] at o
      walk_at "go"
      exact k _ _ _ (g.keepN hq o.2 o.1) upd_same
end

end K01
set_option maxRecDepth 100000
set_option maxHeartbeats 2000000
namespace K01
open PySem PySem.Spec PyProof.Rows L2 Us
noncomputable def heldB (w : Str) (ms : List Nat) (n : Nat) : Bool := if w = "more" then decide (0 < n) && genB ms (n - 1) else if n = 0 then !decide (w = "once") else decide (n = 1) || decide (w = "free")
/-- a lot's word and makers, as the law hands them on -/
def SpecAt (B : Hp) (v : V) (w : Str) (ms : List Nat) : Prop := ∃ s p, v = .ref s ∧ B s = some (.tup [.str w, .ref p, .non]) ∧ B p = some (.tup (ms.map nV))
theorem SpecAt.mono {B B' : Hp} {v : V} {w : Str} {ms : List Nat} (s : Same B B') (h : SpecAt B v w ms) : SpecAt B' v w ms := by
  obtain ⟨q, p, e, h1, h2⟩ := h
  exact ⟨q, p, e, s _ _ h1, s _ _ h2⟩
def spTold (K : PySem.W.Frag) : Sp := fun vs H Q _ => ∃ (B : Hp) (v : V) (w : Str) (ms : List Nat) (N : Nat), vs = [v, .int (N : Int)] ∧ Same B H ∧ SpecAt B v w ms ∧ LotS w ms ∧ 0 < N ∧ N ≤ 1000 ∧ ∀ B' H' q, Gr [] B H B' H' → B' q = some (.lst (((List.range (N + 1)).map (heldB w ms)).map V.bl)) → Q (.ref q) H'
def spLeastM (K : PySem.W.Frag) : Sp := fun vs H Q _ => ∃ (B : Hp) (p : Addr) (l : List Nat) (b0 : Bool) (N : Nat), vs = [.ref p] ∧ Same B H ∧ H p = some (.lst ((b0 :: (List.range N).map fun i => genB l (i + 1)).map V.bl)) ∧ l.Pairwise (· < ·) ∧ (∀ m ∈ l, 0 < m ∧ m ≤ N) ∧ N ≤ 1000 ∧ ∀ B' H' q, Gr [] B H B' H' → B' q = some (.tup ((need l).map nV)) → Q (.ref q) H'
theorem word_raw {w : Str} (h : wordB (.str w) = true) : w ≠ "raw" := by
  intro e
  subst e
  exact absurd h (by decide +kernel)
section
variable {P : Program} {w : World} {K : PySem.W.Frag} {mg : Str → Option Value} {base : Heap}
theorem ok_told (T : Txt K mg) (Dlaw_sums : DefOk P w K mg base CX0 1 "_law_sums" p_law_sums (spSums K)) : DefOk P w K mg base CX0 2 "_law_told_numbers" p_law_told_numbers (spTold K) := by
  refine T.d_law_told_numbers.ok sc_law_told_numbers (fun _ _ _ _ _ _ us hl => match us, hl with | [_, _], _ => rfl) (fun vs H Q E h => ?_) (fun fa cdv A outer s H vs Q E hr h => ?_)
  · obtain ⟨B, v, w, ms, N, rfl, _⟩ := h
    rfl
  · obtain ⟨B, v, wd, ms, N, rfl, hS, ⟨sp, p, rfl, hsp, hp⟩, hG, h0, hN, k⟩ := h
    refine ⟨_, PSs.nox (pss_cons (ps_asg (pv 0) (pg_tup (by rfl) (pgs_cons (pg_name (i := 2) sc_law_told_numbers.nd rfl (Or.inr rfl)) (pgs_cons (pg_name (i := 3) sc_law_told_numbers.nd rfl (Or.inl rfl)) (pgs_cons (pg_name (i := 4) sc_law_told_numbers.nd rfl (Or.inl rfl)) pgs_nil)))))
    (pss_cons (ps_if (pt_cmpR op_eq (pv 2) pe_str (nomark _))
      (pss_cons (ps_set (i := 5) sc_law_told_numbers.nd rfl (Or.inl rfl) (pe_callTy call_listU (by rfl) T.f_list (by decide +kernel) (pa_cons (pv 3) pa_nil)))
      (pss_cons (ps_while PassesOwn.never (pt_cmpR op_le (pe_callB call_lenU (by rfl) T.f_len (by decide +kernel) (pa_cons (pv 5) pa_nil)) (pv 1) (nomark _))
        (pss_one (ps_expr (pe_bm PySem.F.plainAttrs_list PySem.F.slot_list_extend PySem.F.type_list_extend mt_extend (pv 5) (pa_cons (pv 4) pa_nil)))))
      (pss_one (ps_ret (pe_slice sl_list (pv 5) po_none (po_some (pe_op op_add (pv 1) pe_int)))))))
      pss_nil)
    (pss_cons (ps_if (pt_cmpR op_eq (pv 2) pe_str (nomark _))
      (pss_one (ps_ret (pe_op op_cat (pe_lst (pa_cons pe_bl pa_nil)) (pe_callD Dlaw_sums (hr.mono (by first | decide | omega)) rfl pass0 (pa_cons (pv 3) (pa_cons (pe_op op_sub (pv 1) pe_int) pa_nil))))))
      pss_nil)
    (pss_one (ps_ret (pe_lc (own := [("_law_number", 6)]) (g := gName 6) (tt := tYes) rfl sc_law_told_numbers.nd (pi_range1 (by rfl) T.f_range (pa_cons (pe_op op_add (pv 1) pe_int) pa_nil)) (blkOk_by (own := [("_law_number", 6)]) (N := n_law_told_numbers) (sc := defScope s_law_told_numbers) (by decide +kernel)) (fun _ _ _ _ _ => (pg_name (i := 6) sc_law_told_numbers.nd rfl (Or.inl rfl))) (fun _ _ _ _ _ => pts_nil) (fun _ _ _ _ _ => (pe_ifExp (pt_cmpR op_eq (pv 6) pe_int (nomark _)) (pe_cmpR op_ne (pv 2) pe_str (nomark _)) (pe_or (pe_cmpR op_eq (pv 6) pe_int (nomark _)) (pe_one (pe_cmpR op_eq (pv 2) pe_str (nomark _)))))))))))), ?_⟩
    have hpos : ∀ m ∈ ms, 0 < m := fun m hm => (hG.ok m hm).1
    walk_at "go"
    refine i_gtup (SqT.of (hS _ _ hsp)) rfl ?_
    walk_at "go"
    rw [dS, decide_eq_false (word_raw hG.word)]
    walk_at "go"
    rw [dS]
    by_cases hm : wd = "more"
    · rw [decide_eq_true hm]
      walk_at "go"
      refine ⟨sz5 (by simp), fun f1 hf1 => ?_⟩
      have s1 : Gr [] B H B (upd H f1 (.lst [.bl false])) := Gr.cell hS hf1
      have o1 := Own.cell (o := .lst [.bl false]) hS hf1
      walk_at "go"
      refine ⟨B, p, ms, N - 1, by rw [show ((N - 1 : Nat) : Int) = (N : Int) - 1 by omega]; rfl, s1.bh, hp, hpos, by have := hG.len; omega, by omega, fun B1 H1 q s2 hq => ?_⟩
      have o2 := o1.up s2
      refine ⟨f1, q, _, _, rfl, rfl, o2.2, s2.bh _ _ hq, by simp; exact sz5 (by omega), fun r hr' => ?_⟩
      have e : [V.bl false] ++ ((List.range (N - 1 + 1)).map (genB ms)).map V.bl = ((List.range (N + 1)).map (heldB wd ms)).map V.bl := by
        rw [List.range_succ_eq_map (n := N)]
        have e0 : heldB wd ms 0 = false := by unfold heldB; rw [if_pos hm]; rfl
        rw [List.map_cons, List.map_cons, e0, show N - 1 + 1 = N by omega]
        refine congrArg (V.bl false :: ·) ?_
        show ((List.range N).map (genB ms)).map V.bl = _
        rw [List.map_map, List.map_map, List.map_map]
        refine List.map_congr_left fun i _ => ?_
        show V.bl (genB ms i) = V.bl (heldB wd ms (i + 1))
        unfold heldB
        rw [if_pos hm, decide_eq_true (Nat.succ_pos i)]
        rfl
      rw [e]
      exact k _ _ r ((s1.trans s2).trans (Gr.new s2.bh hr')) upd_same
    · rw [decide_eq_false hm]
      walk_at "go"
      refine ⟨_, rfl, by omega, by omega, fun D hD => lc_range (lo := 0) (n := ((N : Int) + 1).toNat) (fun i H' => Gr [] B H B H' ∧ Own B H' D (.lst (((List.range i).map (heldB wd ms)).map V.bl))) ⟨Gr.cell hS hD, Own.cell hS hD⟩ ?_ ?_⟩
      · rintro i H1 hi ⟨g, o⟩
        rw [show (0 : Int) + (i : Int) = (i : Int) by omega]
        have fin : ∀ b, heldB wd ms i = b → ∃ acc, H1 D = some (.lst acc) ∧ acc.length < sizeLine ∧ Gr [] B H B (upd H1 D (.lst (acc ++ [.bl b]))) ∧ Own B (upd H1 D (.lst (acc ++ [.bl b]))) D (.lst (((List.range (i + 1)).map (heldB wd ms)).map V.bl)) := fun b hb =>
          ⟨_, o.2, sz5' (by simp; omega), g.put hD o, o.1, by rw [upd_same, List.range_succ, ← hb]; simp⟩
        have eh : heldB wd ms i = if i = 0 then !decide (wd = "once") else decide (i = 1) || decide (wd = "free") := by unfold heldB; rw [if_neg hm]
        walk_at "go"
        refine ⟨rfl, ?_⟩
        walk_at "go"
        rw [dI]
        by_cases hi0 : i = 0
        · subst hi0
          rw [decide_eq_true (by rfl)]
          walk_at "go"
          rw [dS]
          exact fin _ (by rw [eh, if_pos rfl])
        · rw [decide_eq_false (by omega)]
          rw [if_neg hi0] at eh
          walk_at "go"
          rw [dI, show decide ((i : Int) = 1) = decide (i = 1) by by_cases h : i = 1 <;> simp [h] <;> omega]
          cases h1 : decide (i = 1) with
          | true =>
            walk_at "go"
            exact fin true (by rw [eh, h1]; rfl)
          | false =>
            walk_at "go"
            rw [dS]
            exact fin _ (by rw [eh, h1]; rfl)
      · rintro H1 ⟨g, o⟩
        rw [show ((N : Int) + 1).toNat = N + 1 by omega] at o
        exact k _ _ D (g.keepN hD o.2 o.1) upd_same
end

end K01
set_option maxRecDepth 100000
set_option maxHeartbeats 2000000
namespace K01
open PySem PySem.Spec PyProof.Rows L2 Us
theorem gen_app {acc : List Nat} {n i : Nat} (h : i < n) : Gen (acc ++ [n]) i ↔ Gen acc i := by
  constructor
  · intro g
    refine g.le.mono fun m hm => ?_
    obtain ⟨h1, h2⟩ := List.mem_filter.mp hm
    rcases List.mem_append.mp h1 with h1 | h1
    · exact h1
    · have := of_decide_eq_true h2
      rw [List.mem_singleton.mp h1] at this
      omega
  · exact Gen.mono fun m hm => List.mem_append_left _ hm
noncomputable def accL (l : List Nat) (i : Nat) : List Nat := ((List.range i).map (· + 1)).foldl (Us.ownStep l) []
theorem accL_succ (l : List Nat) (i : Nat) : accL l (i + 1) = Us.ownStep l (accL l i) (i + 1) := by
  unfold accL
  rw [List.range_succ, List.map_append, List.foldl_append]
  rfl
theorem accL_mem {l : List Nat} (hs : l.Pairwise (· < ·)) (hpos : ∀ m ∈ l, 0 < m) (i : Nat) : (∀ m ∈ accL l i, m ∈ l) ∧ (accL l i).length ≤ l.length := by
  unfold accL
  rw [own_need hs hpos]
  exact ⟨fun m hm => (List.mem_filter.mp (need_sub _ m hm)).1, Nat.le_trans (need_len _) (List.length_filter_le _ _)⟩
section
variable {P : Program} {w : World} {K : PySem.W.Frag} {mg : Str → Option Value} {base : Heap}
theorem ok_leastM (T : Txt K mg) : DefOk P w K mg base CX0 1 "_law_least_makers" p_law_least_makers (spLeastM K) := by
  refine T.d_law_least_makers.ok sc_law_least_makers (fun _ _ _ _ _ _ us hl => match us, hl with | [_], _ => rfl) (fun vs H Q E h => ?_) (fun fa cdv A outer s H vs Q E hr h => ?_)
  · obtain ⟨B, p, l, b0, N, rfl, _⟩ := h
    rfl
  · obtain ⟨B, p, l, b0, N, rfl, hS, hp, hs, hl, hN, k⟩ := h
    refine ⟨_, PSs.nox (pss_cons (ps_set (i := 1) sc_law_least_makers.nd rfl (Or.inl rfl) (pe_lst pa_nil))
    (pss_cons (ps_set (i := 2) sc_law_least_makers.nd rfl (Or.inr rfl) (pe_lst (pa_cons pe_bl pa_nil)))
    (pss_cons (ps_for PassesOwn.never rfl (pi_range2 (by rfl) T.f_range (pa_cons pe_int (pa_cons (pe_callB call_lenU (by rfl) T.f_len (by decide +kernel) (pa_cons (pv 0) pa_nil)) pa_nil))) (pg_name (i := 3) sc_law_least_makers.nd rfl (Or.inr rfl))
      (pss_cons (ps_set (i := 4) sc_law_least_makers.nd rfl (Or.inl rfl) (pe_callB (cr_any rfl) (by rfl) T.f_any (by decide +kernel) (pa_cons (pe_lc (own := [("_law_maker", 5)]) (g := gName 5) (tt := tYes) rfl sc_law_least_makers.nd (pi_list (pv 1)) (blkOk_by (own := [("_law_maker", 5)]) (N := n_law_least_makers) (sc := defScope s_law_least_makers) (by decide +kernel)) (fun _ _ _ _ _ => (pg_name (i := 5) sc_law_least_makers.nd rfl (Or.inl rfl))) (fun _ _ _ _ _ => pts_nil) (fun _ _ _ _ _ => (pe_and (pe_cmpR op_le (pv 5) (pv 3) (nomark _)) (pe_one (pe_ix (r := rIxL K) ix_list (pv 2) (pe_op op_sub (pv 3) (pv 5)) (fun _ _ => rfl)))))) pa_nil)))
      (pss_cons (ps_if (PW.pt (pw_and (pt_val (pe_ix ix_list (pv 0) (pv 3) (fun _ _ => rfl))) (pw_and1 (pt_not (pt_val (pv 4))))))
        (pss_cons (ps_expr (pe_bm PySem.F.plainAttrs_list PySem.F.slot_list_append PySem.F.type_list_append mt_append (pv 1) (pa_cons (pv 3) pa_nil)))
        (pss_one (ps_set (i := 4) sc_law_least_makers.nd rfl (Or.inl rfl) pe_bl)))
        pss_nil)
      (pss_one (ps_expr (pe_bm PySem.F.plainAttrs_list PySem.F.slot_list_append PySem.F.type_list_append mt_append (pv 2) (pa_cons (pv 4) pa_nil)))))))
    (pss_one (ps_ret (pe_callTy call_tupU (by rfl) T.f_tuple (by decide +kernel) (pa_cons (pv 1) pa_nil))))))), ?_⟩
    have hpos : ∀ m ∈ l, 0 < m := fun m hm => (hl m hm).1
    have hlen : l.length + 0 ≤ N + 1 := asc_len hs (by omega) fun m hm => ⟨by omega, (hl m hm).2⟩
    walk_at "go"
    refine ⟨sz5 (by simp), fun fo hfo => ?_⟩
    have s1 : Gr [] B H B (upd H fo (.lst [])) := Gr.cell hS hfo
    have o1 := Own.cell (o := .lst []) hS hfo
    walk_at "go"
    refine ⟨sz5 (by simp), fun su hsu => ?_⟩
    have s2 : Gr [] B (upd H fo (.lst [])) B _ := Gr.cell (o := .lst [.bl true]) s1.bh hsu
    have o2 := o1.up s2
    have u2 := Own.cell (o := .lst [.bl true]) s1.bh hsu
    have g2 := s1.trans s2
    have hsu0 := s1.fresh hsu
    have hne : fo ≠ su := fun z => by rw [← z, o1.2] at hsu; cases hsu
    walk_at "go"
    refine i_lenL (SqL.of (g2.keep _ _ (by simp) hp)) ?_
    walk_at "go"
    refine ⟨1, _, rfl, by simp; omega, for_range (lo := 1) (n := ((((b0 :: (List.range N).map fun i => genB l (i + 1)).map V.bl).length : Int) - 1).toNat) (fun i σ H' => ∃ r1 r2 r3, σ = [some (.ref p), some (.ref fo), some (.ref su), r1, r2, r3] ∧ Gr [] B H B H' ∧ Own B H' fo (.lst ((accL l i).map nV)) ∧ Own B H' su (.lst (((List.range (i + 1)).map (genB (accL l i))).map V.bl)))
      ⟨none, none, none, rfl, g2, o2, by simpa [genB_zero] using u2⟩ ?_ ?_⟩
    · rintro i σ H1 hi ⟨r1, r2, r3, rfl, g, o, u⟩
      have hiN : i < N := by simp at hi; omega
      obtain ⟨am, al⟩ := accL_mem hs hpos i
      have ei : (1 : Int) + (i : Int) = ((i + 1 : Nat) : Int) := by omega
      rw [ei]
      have esucc := accL_succ l i
      generalize hacc : accL l i = acc at *
      have hap : ∀ m ∈ acc, 0 < m := fun m hm => hpos m (am m hm)
      walk_at "go"
      refine ⟨fo, rfl, ⟨_, SqL.of o.2⟩, fun D hD => lc_list (K := K) (a := fo) (xs := acc.map nV) (fun j H' => Gr [] B H B H' ∧ Own B H' D (.lst (((acc.take j).map fun m => decide (m ≤ i + 1) && genB acc (i + 1 - m)).map V.bl)) ∧ Own B H' fo (.lst (acc.map nV)) ∧ Own B H' su (.lst (((List.range (i + 1)).map (genB acc)).map V.bl))) ⟨g.trans (Gr.cell g.bh hD), Own.cell g.bh hD, o.up (Gr.cell g.bh hD), u.up (Gr.cell g.bh hD)⟩ (fun j H' _ h => SqL.of h.2.2.1.2) ?_ ?_⟩
      · rintro j x H2 hx ⟨g2, od, o2, u2⟩
        obtain ⟨m, hm, rfl⟩ : ∃ m, acc[j]? = some m ∧ x = nV m := by
          rw [List.getElem?_map] at hx
          cases e : acc[j]? with
          | none => rw [e] at hx; cases hx
          | some m => rw [e] at hx; exact ⟨m, rfl, (Option.some.inj hx).symm⟩
        have hj : j < acc.length := (List.getElem?_eq_some_iff.mp hm).1
        have hD0 : H D = none := g.fresh hD
        have hfD : D ≠ fo := fun z => by rw [z, o.2] at hD; cases hD
        have huD : D ≠ su := fun z => by rw [z, u.2] at hD; cases hD
        have fin : ∀ b, (decide (m ≤ i + 1) && genB acc (i + 1 - m)) = b → ∃ ac, H2 D = some (.lst ac) ∧ ac.length < sizeLine ∧ Gr [] B H B (upd H2 D (.lst (ac ++ [.bl b]))) ∧ Own B (upd H2 D (.lst (ac ++ [.bl b]))) D (.lst (((acc.take (j + 1)).map fun m => decide (m ≤ i + 1) && genB acc (i + 1 - m)).map V.bl)) ∧ Own B (upd H2 D (.lst (ac ++ [.bl b]))) fo (.lst (acc.map nV)) ∧ Own B (upd H2 D (.lst (ac ++ [.bl b]))) su (.lst (((List.range (i + 1)).map (genB acc)).map V.bl)) := fun b hb =>
          ⟨_, od.2, sz5' (by simp; omega), g2.put hD0 od, ⟨od.1, by rw [upd_same, List.take_add_one, hm, ← hb]; simp⟩, Own.other (v := .lst []) o2 hfD, Own.other (v := .lst []) u2 huD⟩
        walk_at "go"
        refine ⟨rfl, ?_⟩
        walk_at "go"
        rw [show decide ((m : Int) ≤ ((i + 1 : Nat) : Int)) = decide (m ≤ i + 1) by by_cases h : m ≤ i + 1 <;> simp [h] <;> omega]
        cases hc : decide (m ≤ i + 1) with
        | false =>
          walk_at "go"
          exact fin false (by rw [hc]; rfl)
        | true =>
          have hle := of_decide_eq_true hc
          walk_at "go"
          have hmp := hap m (List.mem_of_getElem? hm)
          refine i_ixL (SqL.of u2.2) (by rw [show ((i + 1 : Nat) : Int) - (m : Int) = ((i + 1 - m : Nat) : Int) by omega]; exact atI_nat (v := .bl (genB acc (i + 1 - m))) (by rw [List.map_map, List.getElem?_map, List.getElem?_range (by omega)]; rfl)) ?_
          exact fin _ (by rw [hc]; rfl)
      · rintro H2 ⟨g2, od, o2, u2⟩
        rw [show (acc.map nV).length = acc.length by simp, List.take_length] at od
        walk_at "go"
        refine i_any (SqL.of od.2) ?_
        rw [genB_rec hap (Nat.succ_pos i)]
        walk_at "go"
        refine i_ixL (SqL.of (g2.keep _ _ (by simp) hp)) (atI_nat (v := .bl (genB l (i + 1))) (by rw [List.map_cons, List.getElem?_cons_succ, List.map_map, List.getElem?_map, List.getElem?_range hiN]; rfl)) ?_
        have last : ∀ (b : Bool) (acc' : List Nat) (H3 : Hp), acc' = Us.ownStep l acc (i + 1) → (∀ i' ≤ i, genB acc' i' = genB acc i') → b = genB acc' (i + 1) → Gr [] B H B H3 → Own B H3 fo (.lst (acc'.map nV)) → Own B H3 su (.lst (((List.range (i + 1)).map (genB acc)).map V.bl)) → ∃ t1 t2 t3, [some (.ref p), some (.ref fo), some (.ref su), some (.int ((i + 1 : Nat) : Int)), some (.bl b), r3] = [some (.ref p), some (.ref fo), some (.ref su), t1, t2, t3] ∧ Gr [] B H B (upd H3 su (.lst (((List.range (i + 1)).map (genB acc)).map V.bl ++ [.bl b]))) ∧ Own B (upd H3 su (.lst (((List.range (i + 1)).map (genB acc)).map V.bl ++ [.bl b]))) fo (.lst ((accL l (i + 1)).map nV)) ∧ Own B (upd H3 su (.lst (((List.range (i + 1)).map (genB acc)).map V.bl ++ [.bl b]))) su (.lst (((List.range (i + 1 + 1)).map (genB (accL l (i + 1)))).map V.bl)) := fun b acc' H3 e1 e2 e3 g3 o3 u3 => by
          refine ⟨_, _, _, rfl, g3.put hsu0 u3, ?_, u3.1, ?_⟩
          · rw [esucc, ← e1]
            exact Own.other (v := .lst []) o3 (Ne.symm hne)
          · rw [upd_same, esucc, ← e1, List.range_succ (n := i + 1), List.map_append, List.map_append, e3]
            have : (List.range (i + 1)).map (genB acc) = (List.range (i + 1)).map (genB acc') := List.map_congr_left fun x hx => (e2 x (by have := List.mem_range.mp hx; omega)).symm
            rw [this]
            rfl
        cases hb1 : genB l (i + 1) with
        | false =>
          have e1 : acc = Us.ownStep l acc (i + 1) := by unfold Us.ownStep; rw [if_neg (fun z => by rw [genB_iff.mpr z.1] at hb1; cases hb1)]
          walk_at "go"
          refine ⟨tyL u2.2, ?_⟩
          walk_at "go"
          refine i_app u2.2 (sz5' (by simp; omega)) ?_
          exact last _ acc H2 e1 (fun _ _ => rfl) rfl g2 o2 u2
        | true =>
          cases hb2 : genB acc (i + 1) with
          | true =>
            have e1 : acc = Us.ownStep l acc (i + 1) := by unfold Us.ownStep; rw [if_neg (fun z => z.2 (genB_iff.mp hb2))]
            walk_at "go"
            refine ⟨tyL u2.2, ?_⟩
            walk_at "go"
            refine i_app u2.2 (sz5' (by simp; omega)) ?_
            exact last _ acc H2 e1 (fun _ _ => rfl) hb2.symm g2 o2 u2
          | false =>
            have e1 : acc ++ [i + 1] = Us.ownStep l acc (i + 1) := by unfold Us.ownStep; rw [if_pos ⟨genB_iff.mp hb1, fun z => by rw [genB_iff.mpr z] at hb2; cases hb2⟩]
            walk_at "go"
            refine ⟨tyL o2.2, ?_⟩
            walk_at "go"
            refine i_app o2.2 (sz5' (by simp; omega)) ?_
            have g3 := g2.put (u := .lst (acc.map nV ++ [.int ((i + 1 : Nat) : Int)])) hfo o2
            have o3 := o2.put (u := .lst (acc.map nV ++ [.int ((i + 1 : Nat) : Int)]))
            have u3 := Own.other (v := .lst []) (u := .lst (acc.map nV ++ [.int ((i + 1 : Nat) : Int)])) u2 hne
            walk_at "go"
            refine ⟨tyL u3.2, ?_⟩
            walk_at "go"
            refine i_app u3.2 (sz5' (by simp; omega)) ?_
            refine last true (acc ++ [i + 1]) _ e1 (fun i' h' => ?_) (genB_iff.mpr (Gen.one (List.mem_append_right _ (List.mem_singleton.mpr rfl)))).symm g3 ?_ u3
            · by_cases gg : Gen acc i'
              · rw [genB_iff.mpr gg, genB_iff.mpr ((gen_app (by omega)).mpr gg)]
              · rw [genB_no gg, genB_no fun z => gg ((gen_app (by omega)).mp z)]
            · rw [show (acc ++ [i + 1]).map nV = acc.map nV ++ [.int ((i + 1 : Nat) : Int)] by simp]
              exact o3
    · rintro σ H1 ⟨r1, r2, r3, rfl, g, o, u⟩
      have en : ((((b0 :: (List.range N).map fun i => genB l (i + 1)).map V.bl).length : Int) - 1).toNat = N := by simp
      rw [en] at o
      have el : accL l N = need l := by
        unfold accL
        rw [own_need hs hpos]
        refine congrArg need (List.filter_eq_self.mpr fun m hm => decide_eq_true (by have := (hl m hm).2; omega))
      rw [el] at o
      walk_at "go"
      refine i_tupL (SqL.of o.2) fun q hq => ?_
      exact k _ _ q (g.trans (Gr.new g.bh hq)) upd_same
end

end K01
set_option maxRecDepth 100000
set_option maxHeartbeats 2000000
namespace K01
open PySem PySem.Spec PyProof.Rows L2 Us
def spSpec (K : PySem.W.Frag) : Sp := fun vs H Q _ => ∃ B a, vs = [.ref a] ∧ Same B H ∧ HandAt B H a ∧ ∀ B' H' v w ms, Gr [a] B H B' H' → HandAt B' H' a → SpecAt B' v w ms → LotS w ms → Q v H'
def spLot (K : PySem.W.Frag) : Sp := fun vs H Q _ => ∃ B v w ms, vs = [v] ∧ Same B H ∧ SpecAt B v w ms ∧ LotS w ms ∧ ∀ B' H' x nd f, Gr [] B H B' H' → LotAt K B' x w nd f → LotM w ms nd f → Q (.ref x) H'
theorem lotDue_ok {B : Hp} {w : Str} {ms : List Nat} {p : Addr} (h : LotS w ms) (hp : B p = some (.tup (ms.map nV))) : lotDue B (.str w) (.ref p) = none := by
  unfold lotDue
  rw [h.word, tupOf_tup hp]
  have e1 : (ms.map nV).all okI = true := by
    rw [List.all_map, List.all_eq_true]
    intro m hm
    obtain ⟨a, b⟩ := h.ok m hm
    show (decide ((1 : Int) ≤ (m : Int)) && decide ((m : Int) ≤ 12)) = true
    rw [decide_eq_true (by omega), decide_eq_true (by omega)]
    rfl
  have e2 : lenB (.str w) (ms.map nV).length = true := by
    unfold lenB
    rw [dS, List.length_map, decide_eq_true h.len, Bool.and_true, beq_iff_eq]
    by_cases hw : w = "more"
    · rw [decide_eq_true hw, decide_eq_true (h.iff.mpr hw)]
    · rw [decide_eq_false hw, decide_eq_false fun z => hw (h.iff.mp z)]
  show (if ((ms.map nV).all okI && lenB (.str w) (ms.map nV).length) = true then none else some ("makers" : Str)) = none
  rw [e1, e2]
  rfl
theorem nV_inj {ms ns : List Nat} (h : ms.map nV = ns.map nV) : ms = ns := List.map_inj_right (fun a b e => by have := V.int.inj e; omega) |>.mp h
section
variable {P : Program} {w : World} {K : PySem.W.Frag} {mg : Str → Option Value} {base : Heap}
theorem ok_spec (T : Txt K mg) (Dlaw_some : DefOk P w K mg base CX0 2 "_law_some" p_law_some (spSome K)) (Dlaw_draw : DefOk P w K mg base CX0 1 "_law_draw" p_law_draw (spDraw K)) : DefOk P w K mg base CX0 3 "_law_lot_spec" p_law_lot_spec (spSpec K) := by
  refine T.d_law_lot_spec.ok sc_law_lot_spec (fun _ _ _ _ _ _ us hl => match us, hl with | [_], _ => rfl) (fun vs H Q E h => ?_) (fun fa cdv A outer s H vs Q E hr h => ?_)
  · obtain ⟨B, a, rfl, _⟩ := h
    rfl
  · obtain ⟨B, a, rfl, hS, hA, k⟩ := h
    refine ⟨_, PSs.nox (pss_cons (ps_set (i := 1) sc_law_lot_spec.nd rfl (Or.inl rfl) (pe_callD Dlaw_some (hr.mono (by first | decide | omega)) rfl pass0 (pa_cons (pv 0) (pa_cons (pe_lst (pa_cons pe_str (pa_cons pe_str (pa_cons pe_str (pa_cons pe_str (pa_cons pe_str (pa_cons pe_str (pa_cons pe_str pa_nil)))))))) pa_nil))))
    (pss_cons (ps_if (pt_cmpR op_ne (pv 1) pe_str (nomark _))
      (pss_one (ps_ret (pe_tup (pa_cons (pv 1) (pa_cons (pe_tup pa_nil) (pa_cons pe_non pa_nil))))))
      pss_nil)
    (pss_one (ps_ret (pe_tup (pa_cons (pv 1) (pa_cons (pe_callTy call_tupU (by rfl) T.f_tuple (by decide +kernel) (pa_cons (pe_lc (own := [("_law_turn", 2)]) (g := gName 2) (tt := tYes) rfl sc_law_lot_spec.nd (pi_range1 (by rfl) T.f_range (pa_cons (pe_op op_add pe_int (pe_callD Dlaw_draw (hr.mono (by first | decide | omega)) rfl pass0 (pa_cons (pv 0) (pa_cons pe_int pa_nil)))) pa_nil)) (blkOk_by (own := [("_law_turn", 2)]) (N := n_law_lot_spec) (sc := defScope s_law_lot_spec) (by decide +kernel)) (fun _ _ _ _ _ => (pg_name (i := 2) sc_law_lot_spec.nd rfl (Or.inl rfl))) (fun _ _ _ _ _ => pts_nil) (fun _ _ _ _ _ => (pe_op op_add pe_int (pe_callD Dlaw_draw (hr.mono (by first | decide | omega)) rfl pass0 (pa_cons (pv 0) (pa_cons pe_int pa_nil)))))) pa_nil)) (pa_cons pe_non pa_nil)))))))), ?_⟩
    walk_at "go"
    refine ⟨sz5 (by simp), fun q hq => ?_⟩
    have s1 : Gr [] B H _ _ := Gr.new (o := .lst [.str "once", .str "loan", .str "free", .str "more", .str "more", .str "more", .str "more"]) hS hq
    have hA1 := hA.mono s1 (fun z => nomatch z)
    walk_at "go"
    refine ⟨_, a, q, _, rfl, s1.bh, hA1, upd_same, by decide, by decide, fun H1 x s2 hA2 hx => ?_⟩
    obtain ⟨z, rfl, hz⟩ : ∃ z : Str, x = .str z ∧ wordB (.str z) = true := by
      simp only [List.mem_cons, List.not_mem_nil, or_false] at hx
      rcases hx with rfl | rfl | rfl | rfl | rfl | rfl | rfl <;> exact ⟨_, rfl, by decide +kernel⟩
    have g2 : Gr [a] B H _ H1 := s1.up.trans s2
    walk_at "go"
    rw [dS]
    by_cases hm : z = "more"
    · rw [decide_eq_true hm]
      walk_at "go"
      refine ⟨_, a, 4, rfl, by decide, by decide, g2.bh, hA2, fun H2 d s3 hA3 d0 d1 => ?_⟩
      have g3 := g2.trans s3
      obtain ⟨n, rfl⟩ : ∃ n : Nat, d = (n : Int) := ⟨d.toNat, by omega⟩
      walk_at "go"
      refine ⟨_, rfl, by omega, by omega, fun D hD => ?_⟩
      have hDa : D ∉ [a] := fun z => by
        rw [List.mem_singleton.mp z] at hD
        obtain ⟨_, _, _, _, _, _, _, e, _⟩ := hA3
        rw [e] at hD; cases hD
      refine lc_range (lo := 0) (n := ((1 : Int) + (n : Int)).toNat) (fun i H' => ∃ ms : List Nat, Gr [a] B H (upd B q (.lst [.str "once", .str "loan", .str "free", .str "more", .str "more", .str "more", .str "more"])) H' ∧ HandAt (upd B q (.lst [.str "once", .str "loan", .str "free", .str "more", .str "more", .str "more", .str "more"])) H' a ∧ Own (upd B q (.lst [.str "once", .str "loan", .str "free", .str "more", .str "more", .str "more", .str "more"])) H' D (.lst (ms.map nV)) ∧ ms.length = i ∧ ∀ m ∈ ms, 0 < m ∧ m ≤ 12)
        ⟨[], g3.trans (Gr.cell g3.bh hD), hA3.mono (Gr.cell (ms := []) g3.bh hD) (fun z => nomatch z), Own.cell g3.bh hD, rfl, fun m hm => nomatch hm⟩ ?_ ?_
      · rintro i H3 hi ⟨ms, g, hA4, o, hl, hms⟩
        walk_at "go"
        refine ⟨rfl, ?_⟩
        walk_at "go"
        refine ⟨_, a, 12, rfl, by decide, by decide, g.bh, hA4, fun H4 d s5 hA5 e0 e1 => ?_⟩
        obtain ⟨m, rfl⟩ : ∃ m : Nat, d = (m : Int) := ⟨d.toNat, by omega⟩
        walk_at "go"
        have o5 := o.mono s5 hDa
        refine ⟨_, o5.2, sz5' (by simp; omega), ms ++ [1 + m], (g.trans s5).put (g3.fresh hD) o5, ?_, ?_, by simp [hl], ?_⟩
        · obtain ⟨bA, c, ns, i', big, seed, n', hH, hc, r⟩ := hA5
          exact ⟨bA, c, ns, i', big, seed, n', (upd_ne (fun z => hDa (by rw [z]; exact List.mem_singleton.mpr rfl))).trans hH, hc, r⟩
        · refine ⟨o5.1, ?_⟩
          rw [upd_same, List.map_append]
          show some (HO.lst (_ ++ [V.int (1 + (m : Int))])) = some (HO.lst (_ ++ [V.int ((1 + m : Nat) : Int)]))
          rw [show ((1 + m : Nat) : Int) = 1 + (m : Int) by omega]
        · intro m' hm'
          rcases List.mem_append.mp hm' with h | h
          · exact hms m' h
          · rw [List.mem_singleton.mp h]; omega
      · rintro H3 ⟨ms, g, hA4, o, hl, hms⟩
        walk_at "go"
        refine i_tupL (SqL.of o.2) fun t ht => ?_
        have s5 : Gr [] _ H3 _ _ := Gr.new (o := .tup (ms.map nV)) g.bh ht
        have g5 := g.trans s5.up
        have hA5 := hA4.mono s5 (fun z => nomatch z)
        walk_at "go"
        refine ⟨sz5 (by simp), fun r hr' => ?_⟩
        have s6 : Gr [] _ _ _ _ := Gr.new (ms := []) (o := .tup [.str z, .ref t, .non]) g5.bh hr'
        refine k _ _ _ z ms (g5.trans s6.up) (hA5.mono s6 (fun z => nomatch z)) ⟨r, t, rfl, upd_same, s6.bb _ _ upd_same⟩ ⟨hz, hms, by omega, ⟨fun _ => hm, fun _ => by omega⟩⟩
    · rw [decide_eq_false hm]
      walk_at "go"
      refine ⟨sz5 (by simp), fun t ht => ?_⟩
      have s5 : Gr [] _ H1 _ _ := Gr.new (o := .tup []) g2.bh ht
      have g5 := g2.trans s5.up
      have hA5 := hA2.mono s5 (fun z => nomatch z)
      walk_at "go"
      refine ⟨sz5 (by simp), fun r hr' => ?_⟩
      have s6 : Gr [] _ _ _ _ := Gr.new (ms := []) (o := .tup [.str z, .ref t, .non]) g5.bh hr'
      refine k _ _ _ z [] (g5.trans s6.up) (hA5.mono s6 (fun z => nomatch z)) ⟨r, t, rfl, upd_same, s6.bb _ _ upd_same⟩ ⟨hz, (fun m hm => nomatch hm), by decide, ⟨(fun z => nomatch z), fun z => absurd z hm⟩⟩
theorem ok_lot (T : Txt K mg) {fd : FuncData} (GLot : FnOk P w K mg base (L2.CX P w) 4 (He.ma K (He.ga K "Lot") "__init__") fd p_Lot__init (spInit K)) (bLot : L2.Binds K fd p_Lot__init []) : DefOk P w K mg base CX0 6 "_law_lot" p_law_lot (spLot K) := by
  refine T.d_law_lot.ok sc_law_lot (fun _ _ _ _ _ _ us hl => match us, hl with | [_], _ => rfl) (fun vs H Q E h => ?_) (fun fa cdv A outer s H vs Q E hr h => ?_)
  · obtain ⟨B, v, w, ms, rfl, _⟩ := h
    rfl
  · obtain ⟨B, v, wd, ms, rfl, hS, ⟨sp, p, rfl, hsp, hp⟩, hG, k⟩ := h
    refine ⟨_, PSs.nox (pss_one (ps_ret (pe_make T.mk_Lot GLot (hr.mono (by first | decide | omega)) rfl T.g_Lot bLot .nil passNo (pa_cons (pe_ix ix_tup (pv 0) pe_int (fun _ _ => rfl)) (pa_cons (pe_ix ix_tup (pv 0) pe_int (fun _ _ => rfl)) pa_nil))))), ?_⟩
    walk_at "go"
    refine i_ixT (SqT.of (hS _ _ hsp)) atI0 ?_
    walk_at "go"
    refine i_ixT (SqT.of (hS _ _ hsp)) atI1 ?_
    walk_at "go"
    intro x dx hx hdx hne
    have s1 : Gr [] B H B (upd H dx (.own x)) := Gr.cell hS hdx
    have hx1 : upd H dx (.own x) x = none := by rw [upd_ne (Ne.symm hne)]; exact hx
    have s2 : Gr [] B (upd H dx (.own x)) B _ := Gr.cell (o := .ins (LotC K) dx []) s1.bh hx1
    have o2 := Own.cell (o := .ins (LotC K) dx []) s1.bh hx1
    have g2 := s1.trans s2
    refine ⟨B, x, dx, .str wd, .ref p, rfl, g2.bh, o2, .str _, ⟨.tup hp, fun us e => ?_⟩, fun _ B' H' fs z ms' nd f e1 e2 hG' g3 o3 lf lm => ?_, fun part e => ?_⟩
    · rw [tupOf_tup hp] at e
      cases e
      refine ⟨by have := hG.len; simp; omega, fun u hu => ?_⟩
      obtain ⟨m, _, rfl⟩ := List.mem_map.mp hu
      exact .int _
    · cases e1
      rw [tupOf_tup hp] at e2
      have em := nV_inj (Option.some.inj e2)
      subst em
      refine ⟨rfl, ?_⟩
      have g4 : Gr [] B H B' H' := g2.trans' g3 fun q hq => .inr (by rw [List.mem_singleton.mp hq]; exact hx)
      exact k _ _ x nd f (g4.keepN hx o3.2 o3.1) ⟨dx, fs, upd_same, lf.mono (Same.new o3.1)⟩ lm
    · rw [lotDue_ok hG hp] at e
      cases e
end

end K01
set_option maxRecDepth 100000
set_option maxHeartbeats 2000000
namespace K01
open PySem PySem.Spec PyProof.Rows L2 Us
def spDuePart (K : PySem.W.Frag) : Sp := fun vs H Q _ => ∃ B w v, vs = [w, v] ∧ Same B H ∧ Sh K B w ∧ Things K B v ∧ ∀ H', Gr [] B H B H' → Q (optS (lotDue B w v)) H'
def spToldPart (K : PySem.W.Frag) : Sp := fun vs H Q _ => ∃ B w v, vs = [w, v] ∧ Same B H ∧ Sh K B w ∧ Things K B v ∧ ∀ B' H', Gr [] B H B' H' → Q (optS (lotDue B w v)) H'
theorem lenB_law {z : Str} {n : Nat} : (decide ((1 : Int) - (if (!decide (z = "more")) then 1 else 0) ≤ (n : Int)) && decide ((n : Int) ≤ 4 * (if decide (z = "more") then 1 else 0))) = lenB (.str z) n := by
  unfold lenB
  rw [dS]
  by_cases h : z = "more"
  · rw [decide_eq_true h]
    simp only [Bool.not_true, Bool.false_eq_true, if_false, if_true]
    by_cases h1 : 0 < n <;> by_cases h2 : n ≤ 4 <;> simp [h1, h2] <;> omega
  · rw [decide_eq_false h]
    simp only [Bool.not_false, Bool.false_eq_true, if_false, if_true]
    by_cases h1 : 0 < n <;> simp [h1] <;> omega
theorem i_xf {a C d : Addr} {f : Str} {i : Nat} {σ : L2.St} {H : Hp} {fs : List (Str × V)} {v : V} {Q : VK} (h : σ[i]? = some (some (.ref a))) (hd : H d = some (.xd fs)) (hv : fs.lookup f = some v) (q : Q v H) : tXf a (.ref C) (some d) C f (tVar i) σ H Q := ⟨.ref a, h, rfl, rfl, d, fs, v, rfl, hd, hv, q⟩
section
variable {P : Program} {w : World} {K : PySem.W.Frag} {mg : Str → Option Value} {base : Heap}
theorem ok_told_part (T : Txt K mg) (hP : P = R.prog) {fd : FuncData} (GLot : FnOk P w K mg base (L2.CX P w) 4 (He.ma K (He.ga K "Lot") "__init__") fd p_Lot__init (spInit K)) (bLot : L2.Binds K fd p_Lot__init []) : DefOk P w K mg base CX0 6 "_law_told_part" p_law_told_part (spToldPart K) := by
  subst hP
  refine T.d_law_told_part.ok sc_law_told_part (fun _ _ _ _ _ _ us hl => match us, hl with | [_, _], _ => rfl) (fun vs H Q E h => ?_) (fun fa cdv A outer s H vs Q E hr h => ?_)
  · obtain ⟨B, w, v, rfl, _⟩ := h
    rfl
  · obtain ⟨B, wd, v, rfl, hS, shw, ht, k⟩ := h
    refine ⟨_, PSs.nox (pss_cons (ps_set (i := 2) sc_law_told_part.nd rfl (Or.inl rfl) pe_non)
    (pss_cons (ps_try_as (i := 3) (Wout := fun _ _ _ _ => False) rfl rfl sc_law_told_part.nd rfl rfl ⟨rfl, by decide, Or.inl T.g_CountsError⟩ takes0
      (fun W pn xe tk _ => (pss_one (ps_expr (pe_makeS T.mk_Lot GLot (hr.mono (by first | decide | omega)) rfl T.g_Lot bLot (fun σ => passAt tk σ) (pa_cons (pv 0) (pa_cons (pv 1) pa_nil))))))
      (fun a oe cls d pn hz hf => (pss_one (ps_set (i := 2) sc_law_told_part.nd rfl (Or.inl rfl) (pe_ifExp (pt_val (pe_callB (call_isD hz hf) (by rfl) T.f_isinstance (by decide +kernel) (pa_cons (pv 3) (pa_cons (pe_glob (v := .ref (He.ga K "BadLot")) rfl T.g_BadLot rfl) pa_nil)))) (pe_xf (C := He.ga K "BadLot") T.su_BadLot.xfC (of_decide_eq_true (T.su_BadLot.at 8)) hz hf (pv 3)) pe_str)))))
    (pss_one (ps_ret (pv 2))))), ?_⟩
    walk_at "go"
    intro x dx hx hdx hne
    have s1 : Gr [] B H B (upd H dx (.own x)) := Gr.cell hS hdx
    have hx1 : upd H dx (.own x) x = none := by rw [upd_ne (Ne.symm hne)]; exact hx
    have s2 : Gr [] B (upd H dx (.own x)) B _ := Gr.cell (o := .ins (LotC K) dx []) s1.bh hx1
    have o2 := Own.cell (o := .ins (LotC K) dx []) s1.bh hx1
    have g2 := s1.trans s2
    refine ⟨B, x, dx, wd, v, rfl, g2.bh, o2, shw, ht, fun e B' H' fs z ms' nd f e1 e2 hG' g3 o3 lf lm => ?_, fun part e B' H' d g3 hd => ?_⟩
    · rw [e] at k
      refine ⟨rfl, ?_⟩
      have g4 : Gr [] B H B' H' := g2.trans' g3 fun q hq => .inr (by rw [List.mem_singleton.mp hq]; exact hx)
      walk_at "go"
      exact k _ _ g4
    · rw [e] at k
      have g4 : Gr [] B H B' H' := g2.trans' g3 fun q hq => .inr (by rw [List.mem_singleton.mp hq]; exact hx)
      refine ⟨true, T.exm, fun _ ax _ => ?_, fun q => nomatch q⟩
      walk_at "go"
      refine i_isD hd T.c_BadLot (fun u r => r) T.k_BB ?_
      walk_at "go"
      refine' i_xf ?h1 ?h2 ?h3 ?_
      case h1 => exact rfl
      case h2 => exact hd
      case h3 => exact rfl
      walk_at "go"
      exact k _ _ g4
theorem ok_due_part (T : Txt K mg) : DefOk P w K mg base CX0 1 "_law_due_part" p_law_due_part (spDuePart K) := by
  refine T.d_law_due_part.ok sc_law_due_part (fun _ _ _ _ _ _ us hl => match us, hl with | [_, _], _ => rfl) (fun vs H Q E h => ?_) (fun fa cdv A outer s H vs Q E hr h => ?_)
  · obtain ⟨B, w, v, rfl, _⟩ := h
    rfl
  · obtain ⟨B, wd, v, rfl, hS, shw, ht, k⟩ := h
    refine ⟨_, PSs.nox (pss_cons (ps_if (PW.pt (pw_or (pt_not (pt_val (pe_callB call_isi (by rfl) T.f_isinstance (by decide +kernel) (pa_cons (pv 0) (pa_cons (pe_bltn (v := .ty "str") (by rfl) T.f_str (by decide +kernel) rfl) pa_nil))))) (pw_or1 (pt_cmpR op_notIn_seq (pv 0) (pe_lst (pa_cons pe_str (pa_cons pe_str (pa_cons pe_str (pa_cons pe_str pa_nil))))) (by rfl)))))
      (pss_one (ps_ret pe_str))
      pss_nil)
    (pss_cons (ps_if (PW.pt (pw_or (pt_not (pt_val (pe_callB call_isi (by rfl) T.f_isinstance (by decide +kernel) (pa_cons (pv 1) (pa_cons (pe_bltn (v := .ty "tuple") (by rfl) T.f_tuple (by decide +kernel) rfl) pa_nil))))) (pw_or1 (pt_not (pt_chain op_le op_le (pe_op op_sub pe_int (pe_callTy call_intU (by rfl) T.f_int (by decide +kernel) (pa_cons (pe_cmpR op_ne (pv 0) pe_str (nomark _)) pa_nil))) (pe_callB call_lenU (by rfl) T.f_len (by decide +kernel) (pa_cons (pv 1) pa_nil)) (pe_op op_mul pe_int (pe_callTy call_intU (by rfl) T.f_int (by decide +kernel) (pa_cons (pe_cmpR op_eq (pv 0) pe_str (nomark _)) pa_nil))))))))
      (pss_one (ps_ret pe_str))
      pss_nil)
    (pss_cons (ps_for PassesOwn.never rfl (pi_tup (pv 1)) (pg_name (i := 2) sc_law_due_part.nd rfl (Or.inl rfl))
      (pss_one (ps_if (PW.pt (pw_or (pt_not (pt_val (pe_callB call_isi (by rfl) T.f_isinstance (by decide +kernel) (pa_cons (pv 2) (pa_cons (pe_bltn (v := .ty "int") (by rfl) T.f_int (by decide +kernel) rfl) pa_nil))))) (pw_or (pt_val (pe_callB call_isi (by rfl) T.f_isinstance (by decide +kernel) (pa_cons (pv 2) (pa_cons (pe_bltn (v := .ty "bool") (by rfl) T.f_bool (by decide +kernel) rfl) pa_nil)))) (pw_or1 (pt_not (pt_chain op_le op_le pe_int (pv 2) pe_int))))))
        (pss_one (ps_ret pe_str))
        pss_nil)))
    (pss_one (ps_ret pe_non))))), ?_⟩
    have sh := ht.1
    walk_at "go"
    cases hstr : shB B wd "str" with
    | false =>
      have hw : wordB wd = false := by
        cases wd with
        | str z => exact absurd hstr (by show ¬ (("str" == "str") = false); decide)
        | _ => rfl
      rw [lotDue_word hw] at k
      walk_at "go"
      exact k _ (Gr.refl hS)
    | true =>
      obtain ⟨z, rfl⟩ := str_of shw hstr
      walk_at "go"
      refine ⟨sz5 (by simp), fun t1 ht1 => ?_⟩
      have g1 : Gr [] B H B (upd H t1 (.lst [.str "once", .str "loan", .str "free", .str "more"])) := Gr.cell hS ht1
      refine ⟨t1, _, rfl, .inl (SqL.of upd_same), rfl, rfl, ?_⟩
      have ew := wordB_in (B := B) z
      rw [show (if true = true then !inV (V.str z) [V.str "once", V.str "loan", V.str "free", V.str "more"] else inV (V.str z) [V.str "once", V.str "loan", V.str "free", V.str "more"]) = !wordB (.str z) by rw [if_pos rfl, ew]]
      cases hw : wordB (.str z) with
      | false =>
        rw [lotDue_word hw] at k
        walk_at "go"
        exact k _ g1
      | true =>
        have due : lotDue B (.str z) v = (match tupOf B v with
          | some us => if (us.all okI && lenB (.str z) us.length) = true then none else some ("makers" : Str)
          | none => some ("makers" : Str)) := by unfold lotDue; rw [hw]; rfl
        have hS1 := g1.bh
        walk_at "go"
        cases hT : shB B v "tuple" with
        | false =>
          rw [tupOf_no sh hT] at due
          rw [due] at k
          walk_at "go"
          exact k _ g1
        | true =>
          obtain ⟨p, us, rfl, hp⟩ := tup_yes sh hT
          obtain ⟨hz, hsh⟩ := ht.2 us (tupOf_tup hp)
          rw [tupOf_tup hp] at due
          walk_at "go"
          refine i_lenT (SqT.of (hS1 _ _ hp)) ?_
          rw [dS]
          have hlaw := lenB_law (z := z) (n := us.length)
          have bad : (us.all okI && lenB (.str z) us.length) = false → ∀ H', Gr [] B H B H' → Q (.str "makers") H' := fun e H' g => by
            rw [due] at k
            simp only [e, Bool.false_eq_true, if_false] at k
            exact k _ g
          walk_at "go"
          cases hA : decide ((1 : Int) - (if (!decide (z = "more")) then 1 else 0) ≤ (us.length : Int)) with
          | false =>
            rw [hA] at hlaw
            have e : lenB (.str z) us.length = false := hlaw.symm
            walk_at "go"
            exact bad (by rw [e, Bool.and_false]) _ g1
          | true =>
            rw [hA] at hlaw
            walk_at "go"
            rw [dS]
            refine i_rI (.inl ⟨by decide, by decide⟩) ?_
            walk_at "go"
            cases hC : decide ((us.length : Int) ≤ 4 * (if decide (z = "more") then 1 else 0)) with
            | false =>
              rw [hC] at hlaw
              have e : lenB (.str z) us.length = false := hlaw.symm
              walk_at "go"
              exact bad (by rw [e, Bool.and_false]) _ g1
            | true =>
              rw [hC] at hlaw
              have e : lenB (.str z) us.length = true := hlaw.symm
              walk_at "go"
              refine ⟨p, rfl, ⟨_, SqT.of (hS1 _ _ hp)⟩, for_tup (K := K) (a := p) (xs := us) (fun i σ H' => ∃ r, σ = [some (.str z), some (.ref p), r] ∧ Gr [] B H B H' ∧ (us.take i).all okI = true) ⟨none, rfl, g1, rfl⟩ (fun i σ H' _ h => SqT.of (h.choose_spec.2.1.bh _ _ hp)) ?_ ?_⟩
              · rintro i x σ H2 hx ⟨r, rfl, g2, hall⟩
                have shx := hsh x (List.mem_of_getElem? hx)
                have hS2 := g2.bh
                have no : okI x = false → us.all okI = false := fun h => by
                  cases h' : us.all okI with
                  | false => rfl
                  | true => rw [List.all_eq_true.mp h' x (List.mem_of_getElem? hx)] at h; cases h
                walk_at "go"
                cases hi : shB B x "int" with
                | false =>
                  have hn : okI x = false := by
                    cases x with
                    | int j => exact absurd hi (by show ¬ (("int" == "int") = false); decide)
                    | _ => rfl
                  walk_at "go"
                  exact bad (by rw [no hn]; rfl) _ g2
                | true =>
                  walk_at "go"
                  cases hb : shB B x "bool" with
                  | true =>
                    have hn : okI x = false := by
                      cases x with
                      | int j => exact absurd hb (by show ¬ (("bool" == "int") = true); decide)
                      | _ => rfl
                    walk_at "go"
                    exact bad (by rw [no hn]; rfl) _ g2
                  | false =>
                    obtain ⟨j, rfl⟩ : ∃ j, x = .int j := by
                      cases shx with
                      | int j => exact ⟨j, rfl⟩
                      | bl b => exact absurd hb (by show ¬ (("bool" == "bool" || "bool" == "int") = false); decide)
                      | str s => exact absurd hi (by show ¬ (("int" == "str") = true); decide)
                      | tup h' => rw [shB_tup h'] at hi; exact absurd hi (by decide)
                      | lst h' => rw [shB_lst h'] at hi; exact absurd hi (by decide)
                      | dct h' => rw [shB_dct h'] at hi; exact absurd hi (by decide)
                      | ins h' c => rw [shB_ins h'] at hi; cases hi
                      | non => cases hi
                    have eok : okI (.int j) = (decide (1 ≤ j) && decide (j ≤ 12)) := rfl
                    walk_at "go"
                    cases h1 : decide ((1 : Int) ≤ j) with
                    | false =>
                      rw [h1] at eok
                      walk_at "go"
                      exact bad (by rw [no eok]; rfl) _ g2
                    | true =>
                      rw [h1] at eok
                      walk_at "go"
                      cases h2 : decide (j ≤ (12 : Int)) with
                      | false =>
                        rw [h2] at eok
                        walk_at "go"
                        exact bad (by rw [no eok]; rfl) _ g2
                      | true =>
                        rw [h2] at eok
                        walk_at "go"
                        exact ⟨_, rfl, g2, by rw [List.take_add_one, hx, List.all_append, hall]; simp [eok]⟩
              · rintro σ H2 ⟨r, rfl, g2, hall⟩
                rw [List.take_length] at hall
                rw [due] at k
                simp only [hall, e, Bool.and_true, if_true] at k
                walk_at "go"
                exact k _ g2
end

end K01
set_option maxRecDepth 100000
set_option maxHeartbeats 2000000
namespace K01
open PySem PySem.Spec PyProof.Rows L2 Us
def comL (ms : List Nat) : List Nat := ((List.range 12).map (· + 1)).filter fun n => ms.all fun m => decide (m % n = 0)
def comP (ms : List Nat) : Nat := (comL ms).foldl max 0
def spCommon (K : PySem.W.Frag) : Sp := fun vs H Q _ => ∃ (B : Hp) (p : Addr) (ms : List Nat), vs = [.ref p] ∧ Same B H ∧ B p = some (.tup (ms.map nV)) ∧ ms.length ≤ 1000 ∧ ∀ H', Gr [] B H B H' → Q (.int (comP ms : Int)) H'
section
variable {P : Program} {w : World} {K : PySem.W.Frag} {mg : Str → Option Value} {base : Heap}
theorem ok_common (T : Txt K mg) : DefOk P w K mg base CX0 1 "_law_common_part" p_law_common_part (spCommon K) := by
  refine T.d_law_common_part.ok sc_law_common_part (fun _ _ _ _ _ _ us hl => match us, hl with | [_], _ => rfl) (fun vs H Q E h => ?_) (fun fa cdv A outer s H vs Q E hr h => ?_)
  · obtain ⟨B, p, ms, rfl, _⟩ := h
    rfl
  · obtain ⟨B, p, ms, rfl, hS, hp, hz, k⟩ := h
    refine ⟨_, PSs.nox (pss_one (ps_ret (pe_callB (cr_max rfl) (by rfl) T.f_max (by decide +kernel) (pa_cons (pe_lc (own := [("_law_number", 1)]) (g := gName 1) rfl sc_law_common_part.nd (pi_range2 (by rfl) T.f_range (pa_cons pe_int (pa_cons pe_int pa_nil))) (blkOk_by (own := [("_law_number", 1)]) (N := n_law_common_part) (sc := defScope s_law_common_part) (by decide +kernel)) (fun _ _ _ _ _ => (pg_name (i := 1) sc_law_common_part.nd rfl (Or.inr rfl))) (fun _ _ _ _ _ => (pts_one (pt_val (pe_callB (r := rAll K) (cr_all rfl) (by rfl) T.f_all (by decide +kernel) (pa_cons (pe_lc (own := [("_law_maker", 2)]) (g := gName 2) (tt := tYes) rfl sc_law_common_part.nd (pi_tupK K rfl (pv 0)) (blkOk_by (own := [("_law_maker", 2)]) (N := n_law_common_part) (by rfl)) (fun _ _ _ _ _ => (pg_name (i := 2) sc_law_common_part.nd rfl (Or.inl rfl))) (fun _ _ _ _ _ => pts_nil) (fun _ _ _ _ _ => (pe_cmpR op_eq (pe_op op_mod (pe_callTy call_intU (by rfl) T.f_int (by decide +kernel) (pa_cons (pv 2) pa_nil)) (pv 1)) pe_int (nomark _)))) pa_nil))))) (fun _ _ _ _ _ => (pv 1))) pa_nil)))), ?_⟩
    walk_at "go"
    refine ⟨1, 13, rfl, by omega, fun D hD => lc_range (lo := 1) (n := ((13 : Int) - 1).toNat) (fun i H' => Gr [] B H B H' ∧ Own B H' D (.lst ((((List.range i).map (· + 1)).filter fun n => ms.all fun m => decide (m % n = 0)).map nV)) ∧ (((List.range i).map (· + 1)).filter fun n => ms.all fun m => decide (m % n = 0)).length ≤ i) ⟨Gr.cell hS hD, Own.cell hS hD, Nat.le_refl _⟩ ?_ ?_⟩
    · rintro i H1 hi ⟨g, o, hlen⟩
      have ei : (1 : Int) + (i : Int) = ((i + 1 : Nat) : Int) := by omega
      rw [ei]
      have esucc : (((List.range (i + 1)).map (· + 1)).filter fun n => ms.all fun m => decide (m % n = 0)) = (((List.range i).map (· + 1)).filter fun n => ms.all fun m => decide (m % n = 0)) ++ (if (ms.all fun m => decide (m % (i + 1) = 0)) = true then [i + 1] else []) := by
        rw [List.range_succ, List.map_append, List.filter_append]
        congr 1
        simp only [List.map_cons, List.map_nil, List.filter_cons, List.filter_nil]
      walk_at "go"
      refine ⟨rfl, ?_⟩
      walk_at "go"
      refine ⟨p, rfl, ⟨_, SqT.of (g.bh _ _ hp)⟩, fun D2 hD2 => lc_tup (K := K) (a := p) (xs := ms.map nV) (fun j H' => Gr [] B H B H' ∧ Own B H' D2 (.lst (((ms.take j).map fun m => decide (m % (i + 1) = 0)).map V.bl)) ∧ Own B H' D (.lst ((((List.range i).map (· + 1)).filter fun n => ms.all fun m => decide (m % n = 0)).map nV))) ⟨g.trans (Gr.cell g.bh hD2), Own.cell g.bh hD2, o.up (Gr.cell g.bh hD2)⟩ (fun j H' _ h => SqT.of (h.1.bh _ _ hp)) ?_ ?_⟩
      · rintro j x H2 hx ⟨g2, o2, o3⟩
        obtain ⟨m, hm, rfl⟩ : ∃ m, ms[j]? = some m ∧ x = nV m := by
          rw [List.getElem?_map] at hx
          cases e : ms[j]? with
          | none => rw [e] at hx; cases hx
          | some m => rw [e] at hx; exact ⟨m, rfl, (Option.some.inj hx).symm⟩
        have hj : j < ms.length := (List.getElem?_eq_some_iff.mp hm).1
        have hDD : D2 ≠ D := fun z => by rw [z, o.2] at hD2; cases hD2
        walk_at "go"
        refine ⟨rfl, ?_⟩
        walk_at "go"
        refine i_rI (by omega) ?_
        walk_at "go"
        rw [dI, show decide ((m : Int) % ((i + 1 : Nat) : Int) = 0) = decide (m % (i + 1) = 0) by
          rw [show (m : Int) % ((i + 1 : Nat) : Int) = ((m % (i + 1) : Nat) : Int) from (Int.natCast_emod _ _).symm]
          generalize m % (i + 1) = kk
          by_cases h : kk = 0
          · subst h; simp
          · rw [decide_eq_false h, decide_eq_false (by omega)]]
        exact ⟨_, o2.2, sz5' (by simp; omega), g2.put (g.fresh hD2) o2, ⟨o2.1, by rw [upd_same, List.take_add_one, hm]; simp⟩, Own.other (v := .lst []) o3 hDD⟩
      · rintro H2 ⟨g2, o2, o3⟩
        rw [show (ms.map nV).length = ms.length by simp, List.take_length] at o2
        walk_at "go"
        refine i_all (SqL.of o2.2) ?_
        rw [show (ms.map fun m => decide (m % (i + 1) = 0)).all id = ms.all fun m => decide (m % (i + 1) = 0) by rw [List.all_map]; rfl]
        cases hb : ms.all fun m => decide (m % (i + 1) = 0) with
        | true =>
          rw [hb, if_pos rfl] at esucc
          walk_at "go"
          refine ⟨_, o3.2, sz5' (by simp only [List.length_map]; simp at hi; omega), g2.put hD o3, ⟨o3.1, ?_⟩, ?_⟩
          · rw [upd_same, esucc]; simp
          · rw [esucc]; simp; omega
        | false =>
          rw [hb, if_neg (by decide)] at esucc
          rw [List.append_nil] at esucc
          walk_at "go"
          exact ⟨g2, by rw [esucc]; exact o3, by rw [esucc]; omega⟩
    · rintro H1 ⟨g, o, _⟩
      have e12 : ((13 : Int) - 1).toNat = 12 := rfl
      rw [e12] at o
      walk_at "go"
      have h1 : 1 ∈ comL ms := List.mem_filter.mpr ⟨by decide, List.all_eq_true.mpr fun m _ => decide_eq_true (Nat.mod_one m)⟩
      refine ⟨D, (comL ms).map (fun m : Nat => (m : Int)), rfl, SqL.of (by rw [o.2, List.map_map]; rfl), ?_, fun m m1 m2 => ?_⟩
      · rw [List.length_map]; exact List.length_pos_of_mem h1
      · have em : m = (comP ms : Int) := by
          obtain ⟨y, hy, rfl⟩ := List.mem_map.mp m1
          obtain ⟨a1, a2, a3⟩ := foldl_max (comL ms) 0
          have u := a2 y hy
          show (y : Int) = (((comL ms).foldl max 0 : Nat) : Int)
          rcases a3 with q | q
          · omega
          · have := m2 _ (List.mem_map.mpr ⟨_, q, rfl⟩)
            omega
        rw [em]
        exact k _ g
end

end K01
set_option maxRecDepth 100000
set_option maxHeartbeats 2000000
namespace K01
open PySem PySem.Spec PyProof.Rows L2 Us
noncomputable def dueMiss (w : Str) (ms : List Nat) : Option (List Nat) := if w = "once" ∨ w = "loan" ∨ (w = "more" ∧ 1 < comP ms) then none else some (((List.range 160).map (· + 1)).filter fun n => !heldB w ms n)
def spDueMiss (K : PySem.W.Frag) : Sp := fun vs H Q _ => ∃ B v w ms, vs = [v] ∧ Same B H ∧ SpecAt B v w ms ∧ LotS w ms ∧ ∀ B' H' u, Gr [] B H B' H' → MissV B' u (dueMiss w ms) → Q u H'
section
variable {P : Program} {w : World} {K : PySem.W.Frag} {mg : Str → Option Value} {base : Heap}
theorem ok_due_missing (T : Txt K mg) (Dlaw_common_part : DefOk P w K mg base CX0 1 "_law_common_part" p_law_common_part (spCommon K)) (Dlaw_told_numbers : DefOk P w K mg base CX0 2 "_law_told_numbers" p_law_told_numbers (spTold K)) : DefOk P w K mg base CX0 3 "_law_due_missing" p_law_due_missing (spDueMiss K) := by
  refine T.d_law_due_missing.ok sc_law_due_missing (fun _ _ _ _ _ _ us hl => match us, hl with | [_], _ => rfl) (fun vs H Q E h => ?_) (fun fa cdv A outer s H vs Q E hr h => ?_)
  · obtain ⟨B, v, w, ms, rfl, _⟩ := h
    rfl
  · obtain ⟨B, v, wd, ms, rfl, hS, hsp, hG, k⟩ := h
    have hsp' := hsp
    obtain ⟨sp, p, rfl, hs, hp⟩ := hsp
    refine ⟨_, PSs.nox (pss_cons (ps_if (PW.pt (pw_or (pt_cmpR op_in_seq (pe_ix ix_tup (pv 0) pe_int (fun _ _ => rfl)) (pe_lst (pa_cons pe_str (pa_cons pe_str pa_nil))) (by rfl)) (pw_or1 (PW.pt (pw_and (pt_cmpR op_eq (pe_ix ix_tup (pv 0) pe_int (fun _ _ => rfl)) pe_str (nomark _)) (pw_and1 (pt_cmpR op_gt (pe_callD Dlaw_common_part (hr.mono (by first | decide | omega)) rfl pass0 (pa_cons (pe_ix ix_tup (pv 0) pe_int (fun _ _ => rfl)) pa_nil)) pe_int (nomark _))))))))
      (pss_one (ps_ret pe_non))
      pss_nil)
    (pss_cons (ps_set (i := 1) sc_law_due_missing.nd rfl (Or.inr rfl) (pe_callD Dlaw_told_numbers (hr.mono (by first | decide | omega)) rfl pass0 (pa_cons (pv 0) (pa_cons pe_int pa_nil))))
    (pss_one (ps_ret (pe_callTy call_tupU (by rfl) T.f_tuple (by decide +kernel) (pa_cons (pe_lc (own := [("_law_number", 2)]) (g := gName 2) rfl sc_law_due_missing.nd (pi_range2 (by rfl) T.f_range (pa_cons pe_int (pa_cons pe_int pa_nil))) (blkOk_by (own := [("_law_number", 2)]) (N := n_law_due_missing) (sc := defScope s_law_due_missing) (by decide +kernel)) (fun _ _ _ _ _ => (pg_name (i := 2) sc_law_due_missing.nd rfl (Or.inl rfl))) (fun _ _ _ _ _ => (pts_one (pt_not (pt_val (pe_ix (r := rIxL K) ix_list (pv 1) (pv 2) (fun _ _ => rfl)))))) (fun _ _ _ _ _ => (pv 2))) pa_nil)))))), ?_⟩
    walk_at "go"
    refine i_ixT (SqT.of (hS _ _ hs)) atI0 ?_
    walk_at "go"
    refine ⟨sz5 (by simp), fun t1 ht1 => ?_⟩
    have g1 : Gr [] B H B (upd H t1 (.lst [.str "once", .str "loan"])) := Gr.cell hS ht1
    refine ⟨t1, _, rfl, .inl (SqL.of upd_same), rfl, rfl, ?_⟩
    have e0 : (if false = true then !inV (V.str wd) [V.str "once", V.str "loan"] else inV (V.str wd) [V.str "once", V.str "loan"]) = (decide (wd = "once") || decide (wd = "loan")) := by
      rw [if_neg (by decide)]
      have e : ∀ y : Str, eqV (.str y) (.str wd) = decide (wd = y) := fun y => by
        show (y == wd) = decide (wd = y)
        by_cases h : wd = y
        · subst h; simp
        · rw [decide_eq_false h]; exact beq_eq_false_iff_ne.mpr (Ne.symm h)
      unfold inV
      simp only [List.any_cons, List.any_nil, Bool.or_false, e]
    rw [e0]
    have nxt : ¬ (wd = "once" ∨ wd = "loan" ∨ (wd = "more" ∧ 1 < comP ms)) → ∀ H1, Gr [] B H B H1 → tSeq (tAsg (tCall (spTold K) [] E0 (tCons (tVar 0) (tCons (tC (.int 160)) tNil))) (gName 1)) (tRet (tCB (rTupU K) (tCons (tLc (iRng2 (tCons (tC (.int 1)) (tCons (tC (.int 161)) tNil))) (gName 2) (tNot (tB (tOp (rIxL K) (tVar 1) (tVar 2)))) (tVar 2) [2]) tNil))) { nx := fun _ H' => Q .non H', rt := Q } (L2.start n_law_due_missing [.ref sp]) H1 := fun hn H1 g => by
      unfold dueMiss at k
      rw [if_neg hn] at k
      walk_at "go"
      refine ⟨B, _, wd, ms, 160, rfl, g.bh, hsp', hG, by decide, by decide, fun B2 H2 q s2 hq => ?_⟩
      have g2 := g.trans s2
      walk_at "go"
      refine ⟨1, 161, rfl, by omega, fun D hD => lc_range (lo := 1) (n := ((161 : Int) - 1).toNat) (fun i H' => Gr [] B H B2 H' ∧ Own B2 H' D (.lst ((((List.range i).map (· + 1)).filter fun n => !heldB wd ms n).map nV)) ∧ (((List.range i).map (· + 1)).filter fun n => !heldB wd ms n).length ≤ i) ⟨g2.trans (Gr.cell g2.bh hD), Own.cell g2.bh hD, Nat.le_refl _⟩ ?_ ?_⟩
      · rintro i H3 hi ⟨g3, o, hl⟩
        have hi' : i < 160 := hi
        have ei : (1 : Int) + (i : Int) = ((i + 1 : Nat) : Int) := by omega
        rw [ei]
        have esucc : (((List.range (i + 1)).map (· + 1)).filter fun n => !heldB wd ms n) = (((List.range i).map (· + 1)).filter fun n => !heldB wd ms n) ++ (if heldB wd ms (i + 1) = true then [] else [i + 1]) := by
          rw [List.range_succ, List.map_append, List.filter_append]
          congr 1
          simp only [List.map_cons, List.map_nil, List.filter_cons, List.filter_nil]
          cases heldB wd ms (i + 1) <;> rfl
        walk_at "go"
        refine ⟨rfl, ?_⟩
        walk_at "go"
        refine i_ixL (SqL.of (g3.bh _ _ hq)) (atI_nat (v := .bl (heldB wd ms (i + 1))) (by rw [List.map_map, List.getElem?_map, List.getElem?_range (by omega)]; rfl)) ?_
        cases hb : heldB wd ms (i + 1) with
        | true =>
          rw [hb, if_pos rfl, List.append_nil] at esucc
          walk_at "go"
          exact ⟨g3, by rw [esucc]; exact o, by rw [esucc]; omega⟩
        | false =>
          rw [hb, if_neg (by decide)] at esucc
          walk_at "go"
          refine ⟨_, o.2, sz5' (by simp only [List.length_map]; omega), g3.put (g2.fresh hD) o, ⟨o.1, ?_⟩, ?_⟩
          · rw [upd_same, esucc]; simp
          · rw [esucc]; simp; omega
      · rintro H3 ⟨g3, o, _⟩
        walk_at "go"
        refine i_tupL (SqL.of o.2) fun q hq' => ?_
        exact k _ _ _ (g3.trans (Gr.new g3.bh hq')) ⟨q, rfl, upd_same⟩
    by_cases h1 : wd = "once" ∨ wd = "loan"
    · have e1 : (decide (wd = "once") || decide (wd = "loan")) = true := by
        rcases h1 with h | h
        · rw [decide_eq_true h]; rfl
        · rw [decide_eq_true h, Bool.or_true]
      unfold dueMiss at k
      rw [if_pos (h1.elim .inl fun h => .inr (.inl h))] at k
      rw [e1]
      walk_at "go"
      exact k _ _ _ g1 rfl
    have e1 : (decide (wd = "once") || decide (wd = "loan")) = false := by
      rw [decide_eq_false fun h => h1 (.inl h), decide_eq_false fun h => h1 (.inr h)]; rfl
    rw [e1]
    walk_at "go"
    refine i_ixT (SqT.of (g1.bh _ _ hs)) atI0 ?_
    walk_at "go"
    rw [dS]
    by_cases h2 : wd = "more"
    · rw [decide_eq_true h2]
      walk_at "go"
      refine i_ixT (SqT.of (g1.bh _ _ hs)) atI1 ?_
      walk_at "go"
      refine ⟨B, p, ms, rfl, g1.bh, hp, by have := hG.len; omega, fun H2 s2 => ?_⟩
      have g2 := g1.trans s2
      walk_at "go"
      rw [show decide ((1 : Int) < (comP ms : Int)) = decide (1 < comP ms) by by_cases h : 1 < comP ms <;> simp [h] <;> omega]
      by_cases h3 : 1 < comP ms
      · rw [decide_eq_true h3]
        unfold dueMiss at k
        rw [if_pos (.inr (.inr ⟨h2, h3⟩))] at k
        walk_at "go"
        exact k _ _ _ g2 rfl
      · rw [decide_eq_false h3]
        refine iteF ?_
        exact nxt (by rintro (h | h | ⟨_, h⟩); exact h1 (.inl h); exact h1 (.inr h); exact h3 h) _ g2
    · rw [decide_eq_false h2]
      refine iteF ?_
      exact nxt (by rintro (h | h | ⟨h, _⟩); exact h1 (.inl h); exact h1 (.inr h); exact h2 h) _ g1
end

end K01
set_option maxRecDepth 100000
set_option maxHeartbeats 2000000
namespace K01
open PySem PySem.Spec PyProof.Rows L2 Us
theorem seqIx {k n : Nat} (h : k < n) : seqIndex? (k : Int) n = some k := by
  first
    | (unfold seqIndex?; simp [h]; done)
    | (unfold seqIndex?; rw [if_neg (by omega), if_pos (by omega)]; rfl)
    | (unfold seqIndex?; simp; omega)
theorem erase_perm {α : Type} : ∀ (l : List α) (j : Nat) (h : j < l.length), (l[j] :: l.eraseIdx j).Perm l
  | [], j, h => by cases h
  | x :: l, 0, _ => List.Perm.refl _
  | x :: l, j + 1, h => by
    have hj : j < l.length := by simpa using h
    have ih := erase_perm l j hj
    show (l[j] :: x :: l.eraseIdx j).Perm (x :: l)
    exact (List.Perm.swap x l[j] _).trans (ih.cons x)
def spShuf (K : PySem.W.Frag) : Sp := fun vs H Q _ => ∃ B a p us, vs = [.ref a, .ref p] ∧ Same B H ∧ HandAt B H a ∧ B p = some (.tup us) ∧ us.length ≤ 1000 ∧ ∀ B' H' q us', Gr [a] B H B' H' → HandAt B' H' a → us'.Perm us → B' q = some (.lst us') → Q (.ref q) H'
section
variable {P : Program} {w : World} {K : PySem.W.Frag} {mg : Str → Option Value} {base : Heap}
theorem ok_shuf (T : Txt K mg) (Dlaw_draw : DefOk P w K mg base CX0 1 "_law_draw" p_law_draw (spDraw K)) : DefOk P w K mg base CX0 2 "_law_shuffled" p_law_shuffled (spShuf K) := by
  refine T.d_law_shuffled.ok sc_law_shuffled (fun _ _ _ _ _ _ us hl => match us, hl with | [_, _], _ => rfl) (fun vs H Q E h => ?_) (fun fa cdv A outer s H vs Q E hr h => ?_)
  · obtain ⟨B, a, p, us, rfl, _⟩ := h
    rfl
  · obtain ⟨B, a, p, us, rfl, hS, hA, hp, hz, k⟩ := h
    refine ⟨_, PSs.nox (pss_cons (ps_set (i := 2) sc_law_shuffled.nd rfl (Or.inl rfl) (pe_callTy call_listU (by rfl) T.f_list (by decide +kernel) (pa_cons (pv 1) pa_nil)))
    (pss_cons (ps_set (i := 3) sc_law_shuffled.nd rfl (Or.inl rfl) (pe_lst pa_nil))
    (pss_cons (ps_while PassesOwn.never (pt_cmpR op_gt (pe_callB call_lenU (by rfl) T.f_len (by decide +kernel) (pa_cons (pv 2) pa_nil)) pe_int (nomark _))
      (pss_one (ps_expr (pe_bm PySem.F.plainAttrs_list PySem.F.slot_list_append PySem.F.type_list_append mt_append (pv 3) (pa_cons (pe_bm PySem.F.plainAttrs_list PySem.F.slot_list_pop PySem.F.type_list_pop mt_popAt (pv 2) (pa_cons (pe_callD Dlaw_draw (hr.mono (by first | decide | omega)) rfl pass0 (pa_cons (pv 0) (pa_cons (pe_callB call_lenU (by rfl) T.f_len (by decide +kernel) (pa_cons (pv 2) pa_nil)) pa_nil))) pa_nil)) pa_nil)))))
    (pss_one (ps_ret (pv 3)))))), ?_⟩
    walk_at "go"
    refine i_listT (SqT.of (hS _ _ hp)) fun po hpo => ?_
    have s1 : Gr [] B H B (upd H po (.lst us)) := Gr.cell hS hpo
    have o1 := Own.cell (o := .lst us) hS hpo
    have hA1 := hA.mono s1 (fun z => nomatch z)
    walk_at "go"
    refine ⟨sz5 (by simp), fun fo hfo => ?_⟩
    have s2 : Gr [] B _ B _ := Gr.cell (o := .lst []) s1.bh hfo
    have o2 := o1.up s2
    have f2 := Own.cell (o := .lst []) s1.bh hfo
    have hA2 := hA1.mono s2 (fun z => nomatch z)
    have g2 : Gr [a] B H B _ := (s1.trans s2).up
    have hfo0 := s1.fresh hfo
    have hne : po ≠ fo := fun z => by rw [← z, o1.2] at hfo; cases hfo
    have hpa : po ≠ a := fun z => by
      obtain ⟨_, _, _, _, _, _, _, e, _⟩ := hA
      rw [z, e] at hpo; cases hpo
    have hfa : fo ≠ a := fun z => by
      obtain ⟨_, _, _, _, _, _, _, e, _⟩ := hA
      rw [z, e] at hfo0; cases hfo0
    walk_at "go"
    refine i_while (fun m σ H' => ∃ us1 us2, σ = [some (.ref a), some (.ref p), some (.ref po), some (.ref fo)] ∧ us1.length = m ∧ (us1 ++ us2).Perm us ∧ Gr [a] B H B H' ∧ HandAt B H' a ∧ Own B H' po (.lst us1) ∧ Own B H' fo (.lst us2)) us.length ⟨us, [], rfl, rfl, by simp, g2, hA2, o2, f2⟩ ?_
    rintro m σ H1 ⟨us1, us2, rfl, hm, hperm, g, hA3, o, f⟩
    have hl := hperm.length_eq
    rw [List.length_append] at hl
    walk_at "go"
    refine i_lenL (SqL.of o.2) ?_
    walk_at "go"
    by_cases h0 : 0 < us1.length
    · rw [decide_eq_true (by omega : (0 : Int) < (us1.length : Int))]
      refine iteT (i_turn ?_)
      walk_at "go"
      refine ⟨tyL f.2, ?_⟩
      walk_at "go"
      refine ⟨tyL o.2, ?_⟩
      walk_at "go"
      refine i_lenL (SqL.of o.2) ?_
      walk_at "go"
      refine ⟨B, a, us1.length, rfl, by omega, by omega, g.bh, hA3, fun H2 d s4 hA4 d0 d1 => ?_⟩
      obtain ⟨j, rfl⟩ : ∃ j : Nat, d = (j : Int) := ⟨d.toNat, by omega⟩
      have hj : j < us1.length := by omega
      have o4 := o.mono s4 (by simpa using hpa)
      have f4 := f.mono s4 (by simpa using hfa)
      have g4 := g.trans s4
      refine ⟨po, us1, _, j, us1[j], rfl, rfl, o4.2, by omega, by omega, seqIx hj, List.getElem?_eq_getElem hj, ?_⟩
      have g5 := g4.put (u := .lst (us1.eraseIdx j)) hpo o4
      have o5 := o4.put (u := .lst (us1.eraseIdx j))
      have f5 := Own.other (v := .lst []) (u := .lst (us1.eraseIdx j)) f4 hne
      have hA5 : HandAt B (upd H2 po (.lst (us1.eraseIdx j))) a := by
        obtain ⟨bA, c, ns, i', big, seed, n', hH, hc, r⟩ := hA4
        exact ⟨bA, c, ns, i', big, seed, n', (upd_ne (Ne.symm hpa)).trans hH, hc, r⟩
      walk_at "go"
      refine i_app f5.2 (sz5' (by omega)) ?_
      refine ⟨us1.length - 1, by omega, us1.eraseIdx j, us2 ++ [us1[j]], rfl, by rw [List.length_eraseIdx_of_lt hj], ?_, g5.put hfo0 f5, ?_, Own.other (v := .lst []) o5 (Ne.symm hne), f5.put⟩
      · refine List.Perm.trans ?_ hperm
        have e : (us1[j] :: us1.eraseIdx j).Perm us1 := erase_perm us1 j hj
        refine List.Perm.trans ?_ (e.append_right us2)
        rw [← List.append_assoc]
        exact (List.perm_append_comm (l₁ := us1.eraseIdx j ++ us2) (l₂ := [us1[j]]))
      · obtain ⟨bA, c, ns, i', big, seed, n', hH, hc, r⟩ := hA5
        exact ⟨bA, c, ns, i', big, seed, n', (upd_ne (Ne.symm hfa)).trans hH, hc, r⟩
    · rw [decide_eq_false (by omega)]
      refine iteF ?_
      have e : us1 = [] := List.length_eq_zero_iff.mp (by omega)
      subst e
      walk_at "go"
      exact k _ _ fo us2 (g.keepN hfo0 f.2 f.1) (by
        obtain ⟨bA, c, ns, i', big, seed, n', hH, hc, r⟩ := hA3
        exact ⟨by rw [upd_ne (Ne.symm hfa)]; exact bA, c, ns, i', big, seed, n', hH, by rw [upd_ne (fun z => by rw [z, f.1] at hc; cases hc)]; exact hc, r⟩) (by simpa using hperm) upd_same
end

end K01
set_option maxRecDepth 100000
set_option maxHeartbeats 2000000
namespace K01
open PySem PySem.Spec PyProof.Rows L2 Us
theorem nw {a p : Addr} {B0 H0 B H : Hp} {o : HO} (g : Gr [a] B0 H0 B H) (hA : HandAt B H a) (hp : H p = none) : Gr [a] B0 H0 (upd B p o) (upd H p o) ∧ HandAt (upd B p o) (upd H p o) a ∧ Same B (upd B p o) ∧ (upd B p o) p = some o := by
  have s : Gr [] B H (upd B p o) (upd H p o) := Gr.new g.bh hp
  exact ⟨g.trans s.up, hA.mono s (fun z => nomatch z), s.bb, upd_same⟩
theorem i_catG {K : PySem.W.Frag} {B H : Hp} {p q : Addr} {xs ys : List V} {Q : VK} (s : Same B H) (hp : B p = some (.tup xs)) (hq : B q = some (.tup ys)) (hz : xs.length + ys.length ≤ sizeLine) (k : ∀ B' H' r, Gr [] B H B' H' → B' r = some (.tup (xs ++ ys)) → Q (.ref r) H') : rCatA K (.ref p) (.ref q) H Q := by
  refine ⟨p, q, xs, ys, rfl, rfl, SqT.of (s _ _ hp), SqT.of (s _ _ hq), hz, fun e => ?_, fun _ e => ?_, fun _ _ r hr => k _ _ r (Gr.new s hr) upd_same⟩
  · exact k _ _ q (Gr.refl s) (by rw [e]; exact hq)
  · exact k _ _ p (Gr.refl s) (by rw [e, List.append_nil]; exact hp)
theorem i_slG {K : PySem.W.Frag} {B H : Hp} {p : Addr} {xs : List V} {lo hi : Option Int} {Q : VK} (s : Same B H) (hp : B p = some (.tup xs)) (k : ∀ B' H' r, Gr [] B H B' H' → B' r = some (.tup (cutV xs lo hi)) → Q (.ref r) H') : rSlA K (.ref p) lo hi H Q := by
  refine ⟨p, xs, rfl, SqT.of (s _ _ hp), fun e => ?_, fun _ r hr => k _ _ r (Gr.new s hr) upd_same⟩
  have e2 : cutV xs lo hi = xs := by
    unfold cutV
    rw [e.1, e.2, List.drop_zero, Nat.sub_zero, List.take_length]
  exact k _ _ p (Gr.refl s) (by rw [e2]; exact hp)
def spBent (K : PySem.W.Frag) : Sp := fun vs H Q _ => ∃ B a v w ms, vs = [.ref a, v] ∧ Same B H ∧ HandAt B H a ∧ SpecAt B v w ms ∧ LotS w ms ∧ ∀ B' H' q w' v', Gr [a] B H B' H' → HandAt B' H' a → B' q = some (.tup [w', v']) → Sh K B' w' → Things K B' v' → Q (.ref q) H'
theorem things_of {K : PySem.W.Frag} {B : Hp} {v : V} (sh : Sh K B v) (h : ∀ p us, v = .ref p → B p = some (.tup us) → us.length ≤ 1000 ∧ ∀ u ∈ us, Sh K B u) : Things K B v := by
  refine ⟨sh, fun us e => ?_⟩
  cases v with
  | ref p =>
    unfold tupOf at e
    dsimp only at e
    split at e
    · cases e
      exact h p us rfl (by assumption)
    · cases e
  | _ => cases e
section
variable {P : Program} {w : World} {K : PySem.W.Frag} {mg : Str → Option Value} {base : Heap}
theorem ok_bent (T : Txt K mg) (Dlaw_draw : DefOk P w K mg base CX0 1 "_law_draw" p_law_draw (spDraw K)) (Dlaw_some : DefOk P w K mg base CX0 2 "_law_some" p_law_some (spSome K)) (Dlaw_deep : DefOk P w K mg base CX0 1 "_law_deep" p_law_deep (spDeep K)) : DefOk P w K mg base CX0 3 "_law_bent" p_law_bent (spBent K) := by
  refine T.d_law_bent.ok sc_law_bent (fun _ _ _ _ _ _ us hl => match us, hl with | [_, _], _ => rfl) (fun vs H Q E h => ?_) (fun fa cdv A outer s H vs Q E hr h => ?_)
  · obtain ⟨B, a, v, w, ms, rfl, _⟩ := h
    rfl
  · obtain ⟨B, a, v, wd, ms, rfl, hS, hA, ⟨sp, p, rfl, hsp, hp⟩, hG, k⟩ := h
    refine ⟨_, PSs.nox (pss_cons (ps_set (i := 2) sc_law_bent.nd rfl (Or.inl rfl) (pe_callD Dlaw_some (hr.mono (by first | decide | omega)) rfl pass0 (pa_cons (pv 0) (pa_cons (pe_lst (pa_cons pe_int (pa_cons pe_int (pa_cons (pe_un un_neg pe_int) (pa_cons pe_bl (pa_cons pe_non (pa_cons pe_str (pa_cons (pe_tup (pa_cons pe_int pa_nil)) (pa_cons (pe_lst (pa_cons pe_int pa_nil)) (pa_cons (pe_op op_pow pe_int pe_int) (pa_cons (pe_callD Dlaw_deep (hr.mono (by first | decide | omega)) rfl pass0 (pa_cons pe_int pa_nil)) pa_nil))))))))))) pa_nil))))
    (pss_cons (ps_set (i := 3) sc_law_bent.nd rfl (Or.inl rfl) (pe_callD Dlaw_some (hr.mono (by first | decide | omega)) rfl pass0 (pa_cons (pv 0) (pa_cons (pe_lst (pa_cons pe_str (pa_cons pe_str (pa_cons pe_str (pa_cons pe_non (pa_cons pe_int (pa_cons (pe_tup (pa_cons pe_str pa_nil)) (pa_cons (pe_lst (pa_cons pe_str pa_nil)) (pa_cons (pe_callD Dlaw_deep (hr.mono (by first | decide | omega)) rfl pass0 (pa_cons pe_int pa_nil)) (pa_cons (pe_ix ix_tup (pv 1) pe_int (fun _ _ => rfl)) pa_nil)))))))))) pa_nil))))
    (pss_cons (ps_set (i := 4) sc_law_bent.nd rfl (Or.inl rfl) (pe_ifExp (pt_cmpR op_eq (pe_callD Dlaw_draw (hr.mono (by first | decide | omega)) rfl pass0 (pa_cons (pv 0) (pa_cons pe_int pa_nil))) pe_int (nomark _)) (pe_op op_catA (pe_ix ix_tup (pv 1) pe_int (fun _ _ => rfl)) (pe_tup (pa_cons (pv 2) pa_nil))) (pe_op op_catA (pe_tup (pa_cons (pv 2) pa_nil)) (pe_slice sl_tupA (pe_ix ix_tup (pv 1) pe_int (fun _ _ => rfl)) (po_some pe_int) po_none))))
    (pss_cons (ps_set (i := 4) sc_law_bent.nd rfl (Or.inl rfl) (pe_callD Dlaw_some (hr.mono (by first | decide | omega)) rfl pass0 (pa_cons (pv 0) (pa_cons (pe_lst (pa_cons (pv 4) (pa_cons (pe_callTy call_listU (by rfl) T.f_list (by decide +kernel) (pa_cons (pe_ix ix_tup (pv 1) pe_int (fun _ _ => rfl)) pa_nil)) (pa_cons (pe_op op_catA (pe_ix ix_tup (pv 1) pe_int (fun _ _ => rfl)) (pe_tup (pa_cons pe_int (pa_cons pe_int (pa_cons pe_int (pa_cons pe_int (pa_cons pe_int pa_nil))))))) (pa_cons (pe_tup pa_nil) (pa_cons (pe_tup (pa_cons pe_int pa_nil)) (pa_cons pe_non (pa_cons pe_dnewK (pa_cons pe_str (pa_cons (pv 4) pa_nil)))))))))) pa_nil))))
    (pss_cons (ps_set (i := 5) sc_law_bent.nd rfl (Or.inl rfl) (pe_callD Dlaw_draw (hr.mono (by first | decide | omega)) rfl pass0 (pa_cons (pv 0) (pa_cons pe_int pa_nil))))
    (pss_one (ps_ret (pe_tup (pa_cons (pe_ifExp (pt_cmpR op_in_seq (pv 5) (pe_lst (pa_cons pe_int (pa_cons pe_int pa_nil))) (by rfl)) (pv 3) (pe_ix ix_tup (pv 1) pe_int (fun _ _ => rfl))) (pa_cons (pe_ifExp (pt_cmpR op_eq (pv 5) pe_int (nomark _)) (pe_ix ix_tup (pv 1) pe_int (fun _ _ => rfl)) (pv 4)) pa_nil)))))))))), ?_⟩
    have g0 : Gr [a] B H B H := Gr.refl hS
    have hsp0 := hsp
    have hp0 := hp
    walk_at "go"
    refine ⟨sz5 (by simp), fun p1 hp1 => ?_⟩
    obtain ⟨g1, hA1, s1, e1⟩ := nw (o := .tup [.int 1]) g0 hA hp1
    replace hsp := s1 _ _ hsp
    replace hp := s1 _ _ hp
    generalize upd B p1 (.tup [.int 1]) = B1 at *
    generalize upd H p1 (.tup [.int 1]) = H1 at *
    walk_at "go"
    refine ⟨sz5 (by simp), fun p2 hp2 => ?_⟩
    obtain ⟨g2, hA2, s2, e2⟩ := nw (o := .lst [.int 1]) g1 hA1 hp2
    replace hsp := s2 _ _ hsp
    replace hp := s2 _ _ hp
    replace e1 := s2 _ _ e1
    generalize upd B1 p2 (.lst [.int 1]) = B2 at *
    generalize upd H1 p2 (.lst [.int 1]) = H2 at *
    walk_at "go"
    refine i_rI ⟨by decide, by decide, by decide⟩ ?_
    walk_at "go"
    refine ⟨B2, 0, rfl, g2.bh, fun B3 H3 d0 s3 hd0 => ?_⟩
    have g3 := g2.trans s3.up
    have hA3 := hA2.mono s3 (fun z => nomatch z)
    replace hsp := s3.bb _ _ hsp
    replace hp := s3.bb _ _ hp
    replace e1 := s3.bb _ _ e1
    replace e2 := s3.bb _ _ e2
    walk_at "go"
    refine ⟨sz5 (by simp), fun p4 hp4 => ?_⟩
    obtain ⟨g4, hA4, s4, e4⟩ := nw (o := .lst [.int 0, .int 13, .int (-1), .bl true, .non, .str "2", .ref p1, .ref p2, .int (10 ^ (29 : Int).toNat), d0]) g3 hA3 hp4
    walk_at "go"
    refine ⟨_, a, p4, _, rfl, g4.bh, hA4, e4, by simp, by simp, fun H5 odd s5 hA5 hodd => ?_⟩
    have g5 := g4.trans s5
    replace hsp := s4 _ _ hsp
    replace hp := s4 _ _ hp
    have sodd : Sh K (upd B3 p4 (.lst [.int 0, .int 13, .int (-1), .bl true, .non, .str "2", .ref p1, .ref p2, .int (10 ^ (29 : Int).toNat), d0])) odd := by
      obtain ⟨pd, ud, rfl, _, sd, _⟩ := hd0
      have shd : Sh K B3 (.ref pd) := by rcases sd with h | h; exact .lst h; exact .tup h
      simp only [List.mem_cons, List.not_mem_nil, or_false] at hodd
      rcases hodd with rfl | rfl | rfl | rfl | rfl | rfl | rfl | rfl | rfl | rfl
      · exact .int _
      · exact .int _
      · exact .int _
      · exact .bl _
      · exact .non
      · exact .str _
      · exact (Sh.tup e1).mono s4
      · exact (Sh.lst e2).mono s4
      · exact .int _
      · exact shd.mono s4
    clear e4 e1 e2 hodd hd0
    generalize upd B3 p4 _ = B4 at *
    walk_at "go"
    refine ⟨sz5 (by simp), fun p6 hp6 => ?_⟩
    obtain ⟨g6, hA6, s6, e6⟩ := nw (o := .tup [.str "more"]) g5 hA5 hp6
    replace hsp := s6 _ _ hsp
    replace hp := s6 _ _ hp
    replace sodd := sodd.mono s6
    generalize upd B4 p6 (.tup [.str "more"]) = B6 at *
    generalize upd H5 p6 (.tup [.str "more"]) = H6 at *
    walk_at "go"
    refine ⟨sz5 (by simp), fun p7 hp7 => ?_⟩
    obtain ⟨g7, hA7, s7, e7⟩ := nw (o := .lst [.str "once"]) g6 hA6 hp7
    replace hsp := s7 _ _ hsp
    replace hp := s7 _ _ hp
    replace sodd := sodd.mono s7
    replace e6 := s7 _ _ e6
    generalize upd B6 p7 (.lst [.str "once"]) = B7 at *
    generalize upd H6 p7 (.lst [.str "once"]) = H7 at *
    walk_at "go"
    refine ⟨B7, 1, rfl, g7.bh, fun B8 H8 d1 s8 hd1 => ?_⟩
    have g8 := g7.trans s8.up
    have hA8 := hA7.mono s8 (fun z => nomatch z)
    replace hsp := s8.bb _ _ hsp
    replace hp := s8.bb _ _ hp
    replace sodd := sodd.mono s8.bb
    replace e6 := s8.bb _ _ e6
    replace e7 := s8.bb _ _ e7
    walk_at "go"
    refine i_ixT (SqT.of (g8.bh _ _ hsp)) atI0 ?_
    walk_at "go"
    refine ⟨sz5 (by simp), fun p9 hp9 => ?_⟩
    obtain ⟨g9, hA9, s9, e9⟩ := nw (o := .lst [.str "Once", .str "", .str "most", .non, .int 1, .ref p6, .ref p7, d1, .str wd]) g8 hA8 hp9
    walk_at "go"
    refine ⟨_, a, p9, _, rfl, g9.bh, hA9, e9, by simp, by simp, fun H10 wo s10 hA10 hwo => ?_⟩
    have g10 := g9.trans s10
    replace hsp := s9 _ _ hsp
    replace hp := s9 _ _ hp
    replace sodd := sodd.mono s9
    have swo : Sh K (upd B8 p9 (.lst [.str "Once", .str "", .str "most", .non, .int 1, .ref p6, .ref p7, d1, .str wd])) wo := by
      obtain ⟨pd, ud, rfl, _, sd, _⟩ := hd1
      have shd : Sh K B8 (.ref pd) := by rcases sd with h | h; exact .lst h; exact .tup h
      simp only [List.mem_cons, List.not_mem_nil, or_false] at hwo
      rcases hwo with rfl | rfl | rfl | rfl | rfl | rfl | rfl | rfl | rfl
      · exact .str _
      · exact .str _
      · exact .str _
      · exact .non
      · exact .int _
      · exact (Sh.tup e6).mono s9
      · exact (Sh.lst e7).mono s9
      · exact shd.mono s9
      · exact .str _
    clear e9 e6 e7 hwo hd1
    generalize upd B8 p9 _ = B10 at *
    have sms : ∀ u ∈ ms.map nV, ∀ B', Sh K B' u := fun u hu B' => by
      obtain ⟨m, _, rfl⟩ := List.mem_map.mp hu
      exact .int _
    have hlen := hG.len
    refine i_name ?_
    dsimp only
    refine i_seq (i_join (fun σ' H' => ∃ B' pm us, σ' = [some (.ref a), some (.ref sp), some odd, some wo, some (.ref pm), none] ∧ Gr [a] B H B' H' ∧ HandAt B' H' a ∧ B' pm = some (.tup us) ∧ us.length ≤ 10 ∧ (∀ u ∈ us, Sh K B' u) ∧ B' sp = some (.tup [.str wd, .ref p, .non]) ∧ B' p = some (.tup (ms.map nV)) ∧ Sh K B' wo) ?_ (fun hr => ?_))
    · clear g0 g1 g2 g3 g4 g5 g6 g7 g8 g9 g10 hA hA1 hA2 hA3 hA4 hA5 hA6 hA7 hA8 hA9 hA10 s1 s2 s3 s4 s5 s6 s7 s8 s9 s10 hsp hp sodd swo
      rintro σ' H' ⟨B', pm, us, rfl, g, hA', e, hl, hu, hsp, hp, swo⟩
      walk_at "go"
      refine i_ixT (SqT.of (g.bh _ _ hsp)) atI1 ?_
      walk_at "go"
      refine i_listT (SqT.of (g.bh _ _ hp)) fun q1 hq1 => ?_
      obtain ⟨g1, hA1, s1, e1⟩ := nw (o := .lst (ms.map nV)) g hA' hq1
      replace hsp := s1 _ _ hsp
      replace hp := s1 _ _ hp
      replace e := s1 _ _ e
      replace hu : ∀ u ∈ us, Sh K (upd B' q1 (.lst (ms.map nV))) u := fun u h => (hu u h).mono s1
      replace swo := swo.mono s1
      generalize upd B' q1 (.lst (ms.map nV)) = B1 at *
      generalize upd H' q1 (.lst (ms.map nV)) = H1 at *
      walk_at "go"
      refine i_ixT (SqT.of (g1.bh _ _ hsp)) atI1 ?_
      walk_at "go"
      refine ⟨sz5 (by simp), fun q2 hq2 => ?_⟩
      obtain ⟨g2, hA2, s2, e2⟩ := nw (o := .tup [.int 1, .int 2, .int 3, .int 4, .int 5]) g1 hA1 hq2
      refine i_catG g2.bh (s2 _ _ hp) e2 (sz5 (by simp; omega)) fun B3 H3 q3 s3 e3 => ?_
      have s23 := s2.trans s3.bb
      have g3 := g2.trans s3.up
      have hA3 := hA2.mono s3 (fun z => nomatch z)
      replace hsp := s23 _ _ hsp
      replace hp := s23 _ _ hp
      replace e := s23 _ _ e
      replace e1 := s23 _ _ e1
      replace hu : ∀ u ∈ us, Sh K B3 u := fun u h => (hu u h).mono s23
      replace swo := swo.mono s23
      walk_at "go"
      refine ⟨sz5 (by simp), fun q4 hq4 => ?_⟩
      obtain ⟨g4, hA4, s4, e4⟩ := nw (o := .tup []) g3 hA3 hq4
      walk_at "go"
      refine ⟨sz5 (by simp), fun q5 hq5 => ?_⟩
      obtain ⟨g5, hA5, s5, e5⟩ := nw (o := .tup [.int 2]) g4 hA4 hq5
      walk_at "go"
      refine fun q6 hq6 => ?_
      obtain ⟨g6, hA6, s6, e6⟩ := nw (o := .dK []) g5 hA5 hq6
      walk_at "go"
      refine ⟨sz5 (by simp), fun q7 hq7 => ?_⟩
      obtain ⟨g7, hA7, s7, e7⟩ := nw (o := .lst [.ref pm, .ref q1, .ref q3, .ref q4, .ref q5, .non, .ref q6, .str "2", .ref pm]) g6 hA6 hq7
      have s67 := (((s4.trans s5).trans s6).trans s7)
      walk_at "go"
      refine ⟨_, a, q7, _, rfl, g7.bh, hA7, e7, by simp, by simp, fun H8 mk s8 hA8 hmk => ?_⟩
      have g8 := g7.trans s8
      have thT : ∀ (B2 : Hp) (r : Addr) (zs : List V), B2 r = some (.tup zs) → zs.length ≤ 1000 → (∀ u ∈ zs, Sh K B2 u) → Things K B2 (.ref r) := fun B2 r zs h1 h2 h3 => things_of (.tup h1) fun p' us' ep eb => by
        cases ep
        rw [h1] at eb
        cases eb
        exact ⟨h2, h3⟩
      have thO : ∀ (B2 : Hp) (v : V), Sh K B2 v → (∀ r zs, v = .ref r → B2 r ≠ some (.tup zs)) → Things K B2 v := fun B2 v sh hn => things_of sh fun p' us' ep eb => absurd eb (hn p' us' ep)
      have tmk : Things K (upd (upd (upd (upd B3 q4 (.tup [])) q5 (.tup [.int 2])) q6 (.dK [])) q7 (.lst [.ref pm, .ref q1, .ref q3, .ref q4, .ref q5, .non, .ref q6, .str "2", .ref pm])) mk := by
        simp only [List.mem_cons, List.not_mem_nil, or_false] at hmk
        have tpm := thT _ pm us (s67 _ _ e) (by omega) fun u h => (hu u h).mono s67
        rcases hmk with rfl | rfl | rfl | rfl | rfl | rfl | rfl | rfl | rfl
        · exact tpm
        · exact thO _ _ (.lst (s67 _ _ e1)) fun r zs er eb => by cases er; rw [s67 _ _ e1] at eb; cases eb
        · exact thT _ q3 _ (s67 _ _ e3) (by simp; omega) fun u h => by
            rcases List.mem_append.mp h with h | h
            · exact sms u h _
            · simp only [List.mem_cons, List.not_mem_nil, or_false] at h
              rcases h with rfl | rfl | rfl | rfl | rfl <;> exact .int _
        · exact thT _ q4 [] (s7 _ _ (s6 _ _ (s5 _ _ e4))) (by decide) fun u h => nomatch h
        · exact thT _ q5 _ (s7 _ _ (s6 _ _ e5)) (by decide) fun u h => by rw [List.mem_singleton.mp h]; exact .int _
        · exact thO _ _ .non fun r zs er eb => nomatch er
        · exact thO _ _ (.dct (s7 _ _ e6)) fun r zs er eb => by cases er; rw [s7 _ _ e6] at eb; cases eb
        · exact thO _ _ (.str _) fun r zs er eb => nomatch er
        · exact tpm
      replace hsp := s67 _ _ hsp
      replace hp := s67 _ _ hp
      replace swo := swo.mono s67
      clear s67 hmk e7 e6 e5 e4 s4 s5 s6 s7
      generalize upd (upd (upd (upd B3 q4 _) q5 _) q6 _) q7 _ = B8 at *
      walk_at "go"
      refine ⟨B8, a, 4, rfl, by decide, by decide, g8.bh, hA8, fun H9 d s9 hA9 _ _ => ?_⟩
      have g9 := g8.trans s9
      walk_at "go"
      refine ⟨sz5 (by simp), fun q10 hq10 => ?_⟩
      have s10 : Gr [] B8 H9 B8 (upd H9 q10 (.lst [.int 0, .int 3])) := Gr.cell g9.bh hq10
      have g10 := g9.trans s10.up
      have hA10 := hA9.mono s10 (fun z => nomatch z)
      refine ⟨q10, _, rfl, .inl (SqL.of upd_same), rfl, rfl, ?_⟩
      have fin : ∀ (H11 : Hp) (w' v' : V), Gr [a] B H B8 H11 → HandAt B8 H11 a → Sh K B8 w' → Things K B8 v' → ∀ q, H11 q = none → Q (.ref q) (upd H11 q (.tup [w', v'])) := fun H11 w' v' g hA sw tv q hq => by
        obtain ⟨g12, hA12, s12, e12⟩ := nw (o := .tup [w', v']) g hA hq
        exact k _ _ q w' v' g12 hA12 e12 (sw.mono s12) (tv.mono s12)
      have tsp : Things K B8 (.ref p) := thT _ p _ hp (by simp; omega) fun u h => sms u h _
      refine i_bl ?_
      refine i_case (fun c => ?_) (fun c => ?_)
      · walk_at "go"
        rw [dI]
        refine i_case (fun c => ?_) (fun c => ?_)
        · walk_at "go"
          refine i_ixT (SqT.of (g10.bh _ _ hsp)) atI1 ?_
          walk_at "go"
          refine ⟨sz5 (by simp), fun q hq => ?_⟩
          exact fin _ _ _ g10 hA10 swo tsp q hq
        · walk_at "go"
          refine ⟨sz5 (by simp), fun q hq => ?_⟩
          exact fin _ _ _ g10 hA10 swo tmk q hq
      · walk_at "go"
        refine i_ixT (SqT.of (g10.bh _ _ hsp)) atI0 ?_
        walk_at "go"
        rw [dI]
        refine i_case (fun c => ?_) (fun c => ?_)
        · walk_at "go"
          refine i_ixT (SqT.of (g10.bh _ _ hsp)) atI1 ?_
          walk_at "go"
          refine ⟨sz5 (by simp), fun q hq => ?_⟩
          exact fin _ _ _ g10 hA10 (.str _) tsp q hq
        · walk_at "go"
          refine ⟨sz5 (by simp), fun q hq => ?_⟩
          exact fin _ _ _ g10 hA10 (.str _) tmk q hq
    · walk_at "go"
      refine ⟨B10, a, 2, rfl, by decide, by decide, g10.bh, hA10, fun H11 d s11 hA11 _ _ => ?_⟩
      have g11 := g10.trans s11
      walk_at "go"
      rw [dI]
      refine i_case (fun c => ?_) (fun c => ?_)
      · walk_at "go"
        refine i_ixT (SqT.of (g11.bh _ _ hsp)) atI1 ?_
        walk_at "go"
        refine ⟨sz5 (by simp), fun p12 hp12 => ?_⟩
        obtain ⟨g12, hA12, s12, e12⟩ := nw (o := .tup [odd]) g11 hA11 hp12
        refine i_catG g12.bh (s12 _ _ hp) e12 (sz5 (by simp; omega)) fun B13 H13 r s13 hr' => ?_
        refine i_name (hr _ _ ⟨B13, r, _, rfl, g12.trans s13.up, hA12.mono s13 (fun z => nomatch z), hr', by simp; omega, fun u hu => ?_, s13.bb _ _ (s12 _ _ hsp), s13.bb _ _ (s12 _ _ hp), (swo.mono s12).mono s13.bb⟩)
        rcases List.mem_append.mp hu with h | h
        · exact sms u h _
        · rw [List.mem_singleton.mp h]; exact (sodd.mono s12).mono s13.bb
      · walk_at "go"
        refine ⟨sz5 (by simp), fun p12 hp12 => ?_⟩
        obtain ⟨g12, hA12, s12, e12⟩ := nw (o := .tup [odd]) g11 hA11 hp12
        walk_at "go"
        refine i_ixT (SqT.of (g12.bh _ _ (s12 _ _ hsp))) atI1 ?_
        walk_at "go"
        refine i_slG g12.bh (s12 _ _ hp) fun B13 H13 r s13 hr' => ?_
        refine i_catG s13.bh (s13.bb _ _ e12) hr' (sz5 (by have := cutV_length (ms.map nV) (some 1) none; simp at this ⊢; omega)) fun B14 H14 r2 s14 hr2 => ?_
        have s15 := s13.trans s14
        refine i_name (hr _ _ ⟨B14, r2, _, rfl, g12.trans s15.up, hA12.mono s15 (fun z => nomatch z), hr2, by have := cutV_length (ms.map nV) (some 1) none; simp at this ⊢; omega, fun u hu => ?_, s15.bb _ _ (s12 _ _ hsp), s15.bb _ _ (s12 _ _ hp), (swo.mono s12).mono s15.bb⟩)
        rcases List.mem_append.mp hu with h | h
        · rw [List.mem_singleton.mp h]; exact (sodd.mono s12).mono s15.bb
        · refine sms u ?_ _
          unfold cutV at h
          exact List.mem_of_mem_drop (List.mem_of_mem_take h)
end

end K01
set_option maxRecDepth 100000
set_option maxHeartbeats 2000000
namespace K01
open PySem PySem.Spec PyProof.Rows L2 Us
theorem asc_gen {ms l : List Nat} (h : Asc ms l) (x : Nat) : Gen l x ↔ Gen ms x := ⟨Gen.mono fun m hm => (h.2 m).mp hm, Gen.mono fun m hm => (h.2 m).mpr hm⟩
theorem lotM_sum {w : Str} {ms nd : List Nat} {f : List (Option Nat)} (hS : LotS w ms) (h : LotM w ms nd f) (hw : w = "more") (x : Nat) : isSumB f x = genB ms x := by
  obtain ⟨l, hl, rfl⟩ := h.l
  have hpos : ∀ m ∈ need l, 0 < m := fun m hm => (hS.ok m ((hl.2 m).mp (need_sub l m hm))).1
  have e := (h.more hw).sum hpos x
  have e2 : Gen (need l) x ↔ Gen ms x := (need_gen l x).trans (asc_gen hl x)
  cases hb : isSumB f x with
  | true => exact (genB_iff.mpr (e2.mp (e.mp hb))).symm
  | false => exact (genB_no fun g => by rw [e.mpr (e2.mpr g)] at hb; cases hb).symm
theorem held_eq {w : Str} {ms nd : List Nat} {f : List (Option Nat)} (hS : LotS w ms) (h : LotM w ms nd f) (n : Nat) : holdsB w f n = heldB w ms n := by
  unfold holdsB heldB
  by_cases hm : w = "more"
  · rw [if_pos hm, if_neg (by rw [hm]; decide +kernel), if_neg (by rw [hm]; decide +kernel), decide_eq_false (by rw [hm]; decide +kernel), lotM_sum hS h hm]
    rfl
  rw [if_neg hm]
  by_cases h1 : w = "once"
  · rw [if_pos h1, h1]
    have e : decide (("once" : Str) = "free") = false := by decide +kernel
    rw [e]
    by_cases hn : n = 0
    · subst hn; simp
    · rw [if_neg hn, Bool.or_false]
  · rw [if_neg h1]
    by_cases h2 : w = "loan"
    · rw [if_pos h2, h2]
      have e : decide (("loan" : Str) = "free") = false := by decide +kernel
      have e2 : decide (("loan" : Str) = "once") = false := by decide +kernel
      rw [e, e2]
      by_cases hn : n = 0
      · subst hn; rfl
      · rw [if_neg hn, Bool.or_false]
        by_cases h3 : n = 1
        · subst h3; rfl
        · rw [decide_eq_false h3, decide_eq_false (by omega)]
    · have h3 : w = "free" := by
        have hw' : (decide (w = "once") || decide (w = "loan") || decide (w = "free") || decide (w = "more")) = true := hS.word
        rw [decide_eq_false h1, decide_eq_false h2, decide_eq_false hm, Bool.or_false] at hw'
        exact of_decide_eq_true hw'
      rw [if_neg h2, decide_eq_true h3, decide_eq_false h1]
      by_cases hn : n = 0
      · subst hn; rfl
      · rw [if_neg hn, Bool.or_true]; rfl

end K01
set_option maxRecDepth 100000
set_option maxHeartbeats 2000000
namespace K01
open PySem PySem.Spec PyProof.Rows L2 Us
/-! ### the tables of all makers up to twelve, by the kernel -/
def iterS (ms : List Nat) (n : Nat) : Nat → List (Option Nat) → List (Option Nat)
  | 0, f => f
  | k + 1, f => match sweep ms n f with
    | (g, true) => iterS ms n k g
    | (g, false) => g
def tabC (ms : List Nat) : List (Option Nat) := match ms with
  | [] => []
  | a :: _ => iterS ms a 40 (Us.startT a)
def closedB (ms : List Nat) (n : Nat) (g : List (Option Nat)) : Bool := (List.range n).all fun r => match oget g r with
  | none => true
  | some b => ms.all fun m => match oget g ((b + m) % n) with
    | none => false
    | some k => decide (k ≤ b + m)
def chk (ms : List Nat) : Bool := match ms with
  | [] => false
  | a :: _ => closedB ms a (tabC ms) && (decide (none ∈ tabC ms) == decide (1 < comP ms)) && decide (maxO (tabC ms) ≤ 160) && decide (a % comP ms = 0) && (List.range a).all fun r => (oget (tabC ms) r).isSome == decide (r % comP ms = 0)
theorem iterS_ok {ms : List Nat} {n : Nat} (hn : 0 < n) (hpos : ∀ m ∈ ms, 0 < m) : ∀ (k : Nat) (f : List (Option Nat)), TabOk ms n f → TabOk ms n (iterS ms n k f)
  | 0, f, h => h
  | k + 1, f, h => by
    have st := sweep_step hn hpos h
    unfold iterS
    rcases hs : sweep ms n f with ⟨g, b⟩
    rw [hs] at st
    cases b with
    | true => exact iterS_ok hn hpos k g st.ok
    | false => exact st.ok
theorem closed_tab {ms : List Nat} {n : Nat} {g : List (Option Nat)} (hn : 0 < n) (h : TabOk ms n g) (hc : closedB ms n g = true) : Tab ms n g := by
  refine ⟨h, fun x gx => ?_⟩
  induction gx with
  | zero => exact ⟨0, by rw [Nat.zero_mod]; exact h.zero, Nat.le_refl _⟩
  | @add x m hm _ ih =>
    obtain ⟨b, hb, lb⟩ := ih
    have c1 := List.all_eq_true.mp hc (x % n) (List.mem_range.mpr (Nat.mod_lt _ hn))
    rw [hb] at c1
    have c2 := List.all_eq_true.mp c1 m hm
    have hs := (h.sound _ _ hb).1
    have e : (b + m) % n = (x + m) % n := by rw [Nat.add_mod, hs, ← Nat.add_mod]
    cases hk : oget g ((b + m) % n) with
    | none => rw [hk] at c2; cases c2
    | some k =>
      rw [hk] at c2
      exact ⟨k, by rw [← e]; exact hk, by have : k ≤ b + m := of_decide_eq_true c2; omega⟩
def all1 : Bool := (List.range 13).all fun a => decide (a = 0) || chk [a]
def all2 : Bool := (List.range 13).all fun a => decide (a = 0) || (List.range 13).all fun b => !decide (a < b) || chk [a, b]
def all3 : Bool := (List.range 13).all fun a => decide (a = 0) || (List.range 13).all fun b => !decide (a < b) || (List.range 13).all fun c => !decide (b < c) || chk [a, b, c]
def all4 : Bool := (List.range 13).all fun a => decide (a = 0) || (List.range 13).all fun b => !decide (a < b) || (List.range 13).all fun c => !decide (b < c) || (List.range 13).all fun d => !decide (c < d) || chk [a, b, c, d]
theorem all1_t : all1 = true := by decide +kernel
theorem all2_t : all2 = true := by decide +kernel
theorem all3_t : all3 = true := by decide +kernel
theorem all4_t : all4 = true := by decide +kernel

end K01
set_option maxRecDepth 100000
set_option maxHeartbeats 2000000
namespace K01
open PySem PySem.Spec PyProof.Rows L2 Us
theorem rng {a : Nat} (h : a ≤ 12) : a ∈ List.range 13 := List.mem_range.mpr (by omega)
theorem or_no {a b : Bool} (h : (a || b) = true) (ha : a = false) : b = true := by rw [ha] at h; exact h
theorem chk_all {l : List Nat} (hs : l.Pairwise (· < ·)) (hb : ∀ m ∈ l, 0 < m ∧ m ≤ 12) (h0 : l ≠ []) (h4 : l.length ≤ 4) : chk l = true := by
  match l, h0, h4 with
  | [a], _, _ =>
    have ha := hb a (by simp)
    exact or_no (List.all_eq_true.mp all1_t a (rng ha.2)) (decide_eq_false (by omega))
  | [a, b], _, _ =>
    have ha := hb a (by simp)
    have hb' := hb b (by simp)
    have hab : a < b := by simp at hs; omega
    have x := or_no (List.all_eq_true.mp all2_t a (rng ha.2)) (decide_eq_false (by omega))
    exact or_no (List.all_eq_true.mp x b (rng hb'.2)) (by rw [decide_eq_true hab]; rfl)
  | [a, b, c], _, _ =>
    have ha := hb a (by simp)
    have hb' := hb b (by simp)
    have hc := hb c (by simp)
    have hab : a < b := by simp at hs; omega
    have hbc : b < c := by simp at hs; omega
    have x := or_no (List.all_eq_true.mp all3_t a (rng ha.2)) (decide_eq_false (by omega))
    have y := or_no (List.all_eq_true.mp x b (rng hb'.2)) (by rw [decide_eq_true hab]; rfl)
    exact or_no (List.all_eq_true.mp y c (rng hc.2)) (by rw [decide_eq_true hbc]; rfl)
  | [a, b, c, d], _, _ =>
    have ha := hb a (by simp)
    have hb' := hb b (by simp)
    have hc := hb c (by simp)
    have hd := hb d (by simp)
    have hab : a < b := by simp at hs; omega
    have hbc : b < c := by simp at hs; omega
    have hcd : c < d := by simp at hs; omega
    have x := or_no (List.all_eq_true.mp all4_t a (rng ha.2)) (decide_eq_false (by omega))
    have y := or_no (List.all_eq_true.mp x b (rng hb'.2)) (by rw [decide_eq_true hab]; rfl)
    have z := or_no (List.all_eq_true.mp y c (rng hc.2)) (by rw [decide_eq_true hbc]; rfl)
    exact or_no (List.all_eq_true.mp z d (rng hd.2)) (by rw [decide_eq_true hcd]; rfl)
theorem asc_comP {ms l : List Nat} (h : Asc ms l) : comP ms = comP l := by
  unfold comP comL
  have e : (fun n => ms.all fun m => decide (m % n = 0)) = fun n => l.all fun m => decide (m % n = 0) := funext fun n => by
    rw [Bool.eq_iff_iff, List.all_eq_true, List.all_eq_true]
    exact ⟨fun k m hm => k m ((h.2 m).mp hm), fun k m hm => k m ((h.2 m).mpr hm)⟩
  rw [e]
theorem nd_len : ∀ {l ms : List Nat}, l.Nodup → (∀ x ∈ l, x ∈ ms) → l.length ≤ ms.length
  | [], ms, _, _ => Nat.zero_le _
  | x :: l, ms, hn, h => by
    obtain ⟨h1, h2⟩ := List.nodup_cons.mp hn
    have hx := h x (List.mem_cons_self ..)
    have := nd_len (l := l) (ms := ms.erase x) h2 fun y hy => (List.mem_erase_of_ne (a := y) (b := x) (fun e => h1 (by rw [← e]; exact hy))).mpr (h y (List.mem_cons_of_mem _ hy))
    rw [List.length_erase_of_mem hx] at this
    have := List.length_pos_of_mem hx
    rw [List.length_cons]
    omega
theorem asc_le {ms l : List Nat} (h : Asc ms l) : l.length ≤ ms.length := nd_len (h.1.imp fun h => Nat.ne_of_lt h) fun x hx => (h.2 x).mp hx
/-- the table of a lot of makers up to twelve is one of those that were looked at -/
theorem lot_tab {w : Str} {ms nd : List Nat} {f : List (Option Nat)} (hS : LotS w ms) (h : LotM w ms nd f) (hw : w = "more") : ∃ a r, Asc ms (a :: r) ∧ chk (a :: r) = true ∧ f = tabC (a :: r) ∧ Tab (a :: r) a f ∧ 0 < a := by
  obtain ⟨l, hl, rfl⟩ := h.l
  have hb : ∀ m ∈ l, 0 < m ∧ m ≤ 12 := fun m hm => hS.ok m ((hl.2 m).mp hm)
  have hpos : ∀ m ∈ l, 0 < m := fun m hm => (hb m hm).1
  have h0 : l ≠ [] := fun e => by
    have h1 := hS.iff.mpr hw
    cases ms with
    | nil => cases h1
    | cons a r => have := (hl.2 a).mpr (List.mem_cons_self ..); rw [e] at this; cases this
  have hc := chk_all hl.1 hb h0 (Nat.le_trans (asc_le hl) hS.len)
  cases l with
  | nil => exact absurd rfl h0
  | cons a r =>
    have ha := hpos a (List.mem_cons_self ..)
    obtain ⟨r', hr'⟩ := need_head hpos
    have hf := h.more hw
    rw [hr'] at hf
    have t1 : Tab (a :: r') a f := hf.tab fun m hm => hpos m (need_sub _ m (hr' ▸ hm))
    have e : ∀ x, Gen (a :: r') x ↔ Gen (a :: r) x := fun x => by rw [← hr']; exact need_gen _ x
    have hcl : closedB (a :: r) a (tabC (a :: r)) = true := by
      have hc' := hc
      unfold chk at hc'
      simp only [Bool.and_eq_true] at hc'
      exact hc'.1.1.1.1
    have t2 : Tab (a :: r) a (tabC (a :: r)) := closed_tab ha (iterS_ok ha hpos 40 _ (start_ok ha)) hcl
    have ef := Tab.uniq ha t1 t2 e
    exact ⟨a, r, hl, hc, ef, ef ▸ t2, ha⟩

end K01
set_option maxRecDepth 100000
set_option maxHeartbeats 2000000
namespace K01
open PySem PySem.Spec PyProof.Rows L2 Us
/-! ### plain facts of the law k01 -/
theorem fold_ge : ∀ (l : List Nat) (a x : Nat), x ∈ l ∨ x ≤ a → x ≤ l.foldl max a
  | [], a, x, h => h.elim (fun z => nomatch z) id
  | y :: l, a, x, h => by
    rw [List.foldl_cons]
    refine fold_ge l _ x ?_
    rcases h with h | h
    · rcases List.mem_cons.mp h with rfl | h
      · exact .inr (Nat.le_max_right _ _)
      · exact .inl h
    · exact .inr (Nat.le_trans h (Nat.le_max_left _ _))
theorem maxO_ge {f : List (Option Nat)} {l : Nat} (h : some l ∈ f) : l ≤ maxO f := fold_ge _ _ _ (.inl (List.mem_map.mpr ⟨some l, h, rfl⟩))
theorem oget_mem {f : List (Option Nat)} {i : Nat} (h : i < f.length) : oget f i ∈ f := by
  unfold oget
  rw [List.getD_eq_getElem?_getD, List.getElem?_eq_getElem h, Option.getD_some]
  exact List.getElem_mem h
theorem sum_far {f : List (Option Nat)} (h0 : 0 < f.length) (hn : none ∉ f) {x : Nat} (hx : maxO f ≤ x) : isSumB f x = true := by
  unfold isSumB
  have hm := oget_mem (f := f) (Nat.mod_lt x h0)
  cases e : oget f (x % f.length) with
  | none => rw [e] at hm; exact absurd hm hn
  | some l =>
    rw [e] at hm
    have := maxO_ge hm
    exact decide_eq_true (by omega)
theorem chk_get {a : Nat} {r : List Nat} (h : chk (a :: r) = true) : decide (none ∈ tabC (a :: r)) = decide (1 < comP (a :: r)) ∧ maxO (tabC (a :: r)) ≤ 160 ∧ a % comP (a :: r) = 0 ∧ ∀ i, i < a → (oget (tabC (a :: r)) i).isSome = decide (i % comP (a :: r) = 0) := by
  unfold chk at h
  simp only [Bool.and_eq_true] at h
  obtain ⟨⟨⟨⟨_, h2⟩, h3⟩, h4⟩, h5⟩ := h
  refine ⟨beq_iff_eq.mp h2, of_decide_eq_true h3, of_decide_eq_true h4, fun i hi => ?_⟩
  exact beq_iff_eq.mp (List.all_eq_true.mp h5 i (List.mem_range.mpr hi))
theorem more_pos {w : Str} {ms nd : List Nat} {f : List (Option Nat)} (hS : LotS w ms) (h : LotM w ms nd f) (hw : w = "more") : 0 < f.length := by
  obtain ⟨a, r, _, _, _, ht, ha⟩ := lot_tab hS h hw
  rw [ht.ok.len]
  exact ha
theorem maxO_le {w : Str} {ms nd : List Nat} {f : List (Option Nat)} (hS : LotS w ms) (h : LotM w ms nd f) : maxO f ≤ 160 := by
  by_cases hw : w = "more"
  · obtain ⟨a, r, _, hc, rfl, _⟩ := lot_tab hS h hw
    exact (chk_get hc).2.1
  · rw [h.less hw]
    decide
theorem range_split {p : Nat → Bool} {M N : Nat} (h : M ≤ N) (hp : ∀ n, M < n → p n = false) : ((List.range M).map (· + 1)).filter p = ((List.range N).map (· + 1)).filter p := by
  obtain ⟨d, rfl⟩ : ∃ d, N = M + d := ⟨N - M, by omega⟩
  rw [List.range_add, List.map_append, List.filter_append]
  have e : (((List.range d).map (M + ·)).map (· + 1)).filter p = [] := List.filter_eq_nil_iff.mpr fun x hx => by
    obtain ⟨y, hy, rfl⟩ := List.mem_map.mp hx
    obtain ⟨z, hz, rfl⟩ := List.mem_map.mp hy
    rw [hp _ (by omega)]
    exact Bool.false_ne_true
  rw [e, List.append_nil]
theorem miss_eq {w : Str} {ms nd : List Nat} {f : List (Option Nat)} (hS : LotS w ms) (h : LotM w ms nd f) : missB w f = dueMiss w ms := by
  unfold missB dueMiss
  have hh : (fun n => !holdsB w f n) = fun n => !heldB w ms n := funext fun n => by rw [held_eq hS h]
  by_cases hf : w = "free"
  · rw [if_pos hf, if_neg (by rw [hf]; rintro (z | z | ⟨z, _⟩) <;> exact absurd z (by decide +kernel))]
    congr 1
    symm
    refine List.filter_eq_nil_iff.mpr fun x hx => ?_
    obtain ⟨y, _, rfl⟩ := List.mem_map.mp hx
    have e : heldB w ms (y + 1) = true := by
      unfold heldB
      rw [if_neg (by rw [hf]; decide +kernel), if_neg (by omega), decide_eq_true hf, Bool.or_true]
    rw [e]
    exact Bool.false_ne_true
  · rw [if_neg hf]
    by_cases hm : w = "more"
    · obtain ⟨a, r, hl, hc, ef, ht, ha⟩ := lot_tab hS h hm
      obtain ⟨c1, c2, c3, c4⟩ := chk_get hc
      have e1 : comP ms = comP (a :: r) := asc_comP hl
      by_cases hn : none ∈ f
      · have : 1 < comP (a :: r) := by
          rw [ef] at hn
          rw [decide_eq_true hn] at c1
          exact of_decide_eq_true c1.symm
        rw [if_pos (.inr hn), if_pos (.inr (.inr ⟨hm, by rw [e1]; exact this⟩))]
      · have : ¬ 1 < comP (a :: r) := by
          rw [ef] at hn
          rw [decide_eq_false hn] at c1
          exact of_decide_eq_false c1.symm
        rw [if_neg (by rintro (z | z); exact z hm; exact hn z), if_neg (by
          rintro (z | z | ⟨_, z⟩)
          · rw [hm] at z; exact absurd z (by decide +kernel)
          · rw [hm] at z; exact absurd z (by decide +kernel)
          · rw [e1] at z; exact this z)]
        rw [hh, range_split (maxO_le hS h) fun n hn' => ?_]
        rw [← held_eq hS h]
        unfold holdsB
        have hlen : 0 < f.length := more_pos hS h hm
        have x1 : isSumB f (n - 1) = true := sum_far hlen hn (by omega)
        have x2 : decide (0 < n) = true := decide_eq_true (by omega)
        rw [if_neg (by rw [hm]; decide +kernel), if_neg (by rw [hm]; decide +kernel), x1, x2, Bool.and_true, Bool.or_true]
        rfl
    · rw [if_pos (.inl hm), if_pos]
      have hw' : (decide (w = "once") || decide (w = "loan") || decide (w = "free") || decide (w = "more")) = true := hS.word
      rw [decide_eq_false hf, decide_eq_false hm, Bool.or_false, Bool.or_false, Bool.or_eq_true] at hw'
      rcases hw' with z | z
      · exact .inl (of_decide_eq_true z)
      · exact .inr (.inl (of_decide_eq_true z))
theorem word_cases {w : Str} (h : wordB (.str w) = true) : w = "once" ∨ w = "loan" ∨ w = "free" ∨ w = "more" := by
  have h' : (decide (w = "once") || decide (w = "loan") || decide (w = "free") || decide (w = "more")) = true := h
  simp only [Bool.or_eq_true, decide_eq_true_eq] at h'
  rcases h' with ((h | h) | h) | h
  · exact .inl h
  · exact .inr (.inl h)
  · exact .inr (.inr (.inl h))
  · exact .inr (.inr (.inr h))
theorem held_once (ms : List Nat) (n : Nat) : heldB "once" ms n = decide (n = 1) := by
  unfold heldB
  have e2 : decide (("once" : Str) = "free") = false := by decide +kernel
  rw [if_neg (by decide +kernel), e2, Bool.or_false]
  by_cases h : n = 0
  · subst h; decide +kernel
  · rw [if_neg h]
theorem held_loan (ms : List Nat) (n : Nat) : heldB "loan" ms n = decide (n < 2) := by
  unfold heldB
  have e2 : decide (("loan" : Str) = "free") = false := by decide +kernel
  rw [if_neg (by decide +kernel), e2, Bool.or_false]
  by_cases h : n = 0
  · subst h; decide +kernel
  · rw [if_neg h]
    by_cases h1 : n = 1
    · subst h1; rfl
    · rw [decide_eq_false h1, decide_eq_false (by omega)]
theorem held_free (ms : List Nat) (n : Nat) : heldB "free" ms n = true := by
  unfold heldB
  rw [if_neg (by decide +kernel)]
  by_cases h : n = 0
  · subst h; decide +kernel
  · rw [if_neg h, decide_eq_true rfl, Bool.or_true]
theorem held_more (ms : List Nat) (n : Nat) : heldB "more" ms n = (decide (0 < n) && genB ms (n - 1)) := by
  unfold heldB
  rw [if_pos rfl]
theorem held_same {w w' : Str} {ms ms' : List Nat} (hS : LotS w ms) (hS' : LotS w' ms') (h : ∀ n, n < 161 → heldB w ms n = heldB w' ms' n) : w = w' := by
  have sep : ∀ ms, LotS "more" ms → (∀ n, n < 161 → heldB "more" ms n = heldB "once" [] n) → False := fun ms hS h => by
    have h1 := hS.iff.mpr rfl
    cases ms with
    | nil => cases h1
    | cons m r =>
      have hm := hS.ok m (List.mem_cons_self ..)
      have e := h (1 + m) (by omega)
      rw [held_more, held_once, decide_eq_true (by omega), decide_eq_false (by omega), Nat.add_sub_cancel_left, genB_iff.mpr (Gen.one (List.mem_cons_self ..))] at e
      cases e
  have h0 := h 0 (by decide)
  have h2 := h 2 (by decide)
  have o0 : ∀ ms, heldB "once" ms 0 = false := fun ms => held_once ms 0
  have o2 : ∀ ms, heldB "once" ms 2 = false := fun ms => held_once ms 2
  have l0 : ∀ ms, heldB "loan" ms 0 = true := fun ms => held_loan ms 0
  have l2 : ∀ ms, heldB "loan" ms 2 = false := fun ms => held_loan ms 2
  have f0 : ∀ ms n, heldB "free" ms n = true := fun ms n => held_free ms n
  have m0 : ∀ ms, heldB "more" ms 0 = false := fun ms => held_more ms 0
  rcases word_cases hS.word with rfl | rfl | rfl | rfl <;> rcases word_cases hS'.word with rfl | rfl | rfl | rfl
  · rfl
  · rw [o0, l0] at h0; cases h0
  · rw [o0, f0] at h0; cases h0
  · exact (sep ms' hS' fun n hn => by rw [← h n hn, held_once, held_once]).elim
  · rw [o0, l0] at h0; cases h0
  · rfl
  · rw [l2, f0] at h2; cases h2
  · rw [l0, m0] at h0; cases h0
  · rw [o0, f0] at h0; cases h0
  · rw [l2, f0] at h2; cases h2
  · rfl
  · rw [f0, m0] at h0; cases h0
  · exact (sep ms hS fun n hn => by rw [h n hn, held_once, held_once]).elim
  · rw [l0, m0] at h0; cases h0
  · rw [f0, m0] at h0; cases h0
  · rfl
theorem need_full {l : List Nat} {n : Nat} (hs : l.Pairwise (· < ·)) (hb : ∀ m ∈ l, 0 < m ∧ m ≤ n) : need l = ((List.range n).map (· + 1)).foldl (Us.ownStep l) [] := by
  rw [own_need hs fun m hm => (hb m hm).1]
  congr 1
  symm
  exact List.filter_eq_self.mpr fun m hm => decide_eq_true (by have := (hb m hm).2; omega)
theorem own_congr {l l' : List Nat} : ∀ (xs acc : List Nat), (∀ x ∈ xs, Gen l x ↔ Gen l' x) → xs.foldl (Us.ownStep l) acc = xs.foldl (Us.ownStep l') acc
  | [], acc, _ => rfl
  | x :: xs, acc, h => by
    have e : Us.ownStep l acc x = Us.ownStep l' acc x := by
      unfold Us.ownStep
      rw [h x (List.mem_cons_self ..)]
    rw [List.foldl_cons, List.foldl_cons, e]
    exact own_congr xs _ fun y hy => h y (List.mem_cons_of_mem _ hy)
theorem told_eq {w w' : Str} {ms ms' nd nd' : List Nat} {f f' : List (Option Nat)} (hS : LotS w ms) (h : LotM w ms nd f) (hS' : LotS w' ms') (h' : LotM w' ms' nd' f') :
    decide (((List.range 161).map (heldB w ms)) = ((List.range 161).map (heldB w' ms'))) = (decide (w = w') && decide (nd = nd')) := by
  obtain ⟨l, hl, rfl⟩ := h.l
  obtain ⟨l', hl', rfl⟩ := h'.l
  have go : ((List.range 161).map (heldB w ms)) = ((List.range 161).map (heldB w' ms')) ↔ w = w' ∧ need l = need l' := by
    constructor
    · intro e
      have e2 : ∀ n, n < 161 → heldB w ms n = heldB w' ms' n := fun n hn => by
        have e3 := congrArg (fun z => z[n]?) e
        simp only [List.getElem?_map, List.getElem?_range hn, Option.map_some] at e3
        exact Option.some.inj e3
      have ew := held_same hS hS' e2
      subst ew
      refine ⟨rfl, ?_⟩
      by_cases hm : w = "more"
      · subst hm
        have hb : ∀ m ∈ l, 0 < m ∧ m ≤ 12 := fun m hm => hS.ok m ((hl.2 m).mp hm)
        have hb' : ∀ m ∈ l', 0 < m ∧ m ≤ 12 := fun m hm => hS'.ok m ((hl'.2 m).mp hm)
        rw [need_full hl.1 hb, need_full hl'.1 hb']
        refine own_congr _ _ fun x hx => ?_
        obtain ⟨y, hy, rfl⟩ := List.mem_map.mp hx
        have hy' := List.mem_range.mp hy
        have e3 := e2 (y + 1 + 1) (by omega)
        rw [held_more, held_more, decide_eq_true (by omega), Bool.true_and, Bool.true_and, Nat.add_sub_cancel] at e3
        rw [asc_gen hl, asc_gen hl', ← genB_iff, ← genB_iff, e3]
      · have n0 : ∀ {ms l : List Nat}, LotS w ms → Asc ms l → l = [] := fun {ms l} hS hl => by
          have : ¬ 0 < ms.length := fun z => hm (hS.iff.mp z)
          have e0 : ms = [] := by cases ms with
            | nil => rfl
            | cons a r => exact absurd (Nat.zero_lt_succ _) this
          subst e0
          cases l with
          | nil => rfl
          | cons a r => exact absurd ((hl.2 a).mp (List.mem_cons_self ..)) (fun z => nomatch z)
        rw [n0 hS hl, n0 hS' hl']
    · rintro ⟨rfl, e⟩
      have eg : genB ms = genB ms' := genB_congr fun x => by rw [← asc_gen hl, ← asc_gen hl', ← need_gen l, ← need_gen l', e]
      unfold heldB
      rw [eg]
  by_cases c : ((List.range 161).map (heldB w ms)) = ((List.range 161).map (heldB w' ms'))
  · rw [decide_eq_true c, decide_eq_true (go.mp c).1, decide_eq_true (go.mp c).2]
    rfl
  · rw [decide_eq_false c]
    symm
    rw [Bool.and_eq_false_iff]
    by_cases c1 : w = w'
    · exact .inr (decide_eq_false fun z => c (go.mpr ⟨c1, z⟩))
    · exact .inl (decide_eq_false c1)
theorem far_eq {w : Str} {ms nd : List Nat} {f : List (Option Nat)} (hS : LotS w ms) (h : LotM w ms nd f) {n : Nat} (hn : 9000 ≤ n) : holdsB w f n = ((decide (w = "more") && decide ((n - 1) % comP ms = 0)) || decide (w = "free")) := by
  by_cases hm : w = "more"
  · obtain ⟨a, r, hl, hc, ef, ht, ha⟩ := lot_tab hS h hm
    obtain ⟨c1, c2, c3, c4⟩ := chk_get hc
    have e1 : comP ms = comP (a :: r) := asc_comP hl
    have e2 : isSumB f (n - 1) = decide ((n - 1) % comP ms = 0) := by
      unfold isSumB
      have hlen := ht.ok.len
      rw [hlen, e1]
      have hlt := Nat.mod_lt (n - 1) ha
      have hi := c4 _ hlt
      have hmm : (n - 1) % a % comP (a :: r) = (n - 1) % comP (a :: r) := Nat.mod_mod_of_dvd _ (Nat.dvd_of_mod_eq_zero c3)
      rw [hmm, ← ef] at hi
      have hmem := oget_mem (f := f) (i := (n - 1) % a) (by rw [hlen]; exact hlt)
      cases e : oget f ((n - 1) % a) with
      | none => rw [e] at hi; exact hi
      | some l =>
        rw [e] at hi hmem
        have := maxO_ge hmem
        have := maxO_le hS h
        rw [← hi]
        exact decide_eq_true (by omega)
    unfold holdsB
    rw [if_neg (by rw [hm]; decide +kernel), if_neg (by rw [hm]; decide +kernel), e2, decide_eq_true hm, decide_eq_false (by rw [hm]; decide +kernel), decide_eq_true (show 0 < n by omega), Bool.or_false]
    rfl
  · rw [decide_eq_false hm, held_eq hS h]
    unfold heldB
    rw [if_neg hm, if_neg (by omega), decide_eq_false (by omega)]
    rfl

end K01
set_option maxRecDepth 100000
set_option maxHeartbeats 2000000
namespace K01
open PySem PySem.Spec PyProof.Rows L2 Us
theorem i_asgK {te : TE} {g : TG} {D : Ends} {σ : L2.St} {H : Hp} (P : V → Hp → Prop) (h : ∀ R : VK, (∀ x H', P x H' → R x H') → te σ H R) (k : ∀ x H', P x H' → g x σ H' D.nx) : tAsg te g D σ H := h _ k
def spRight (K : PySem.W.Frag) : Sp := fun vs H Q _ => ∃ B x v w ms, vs = [x, v] ∧ Same B H ∧ SpecAt B v w ms ∧ LotS w ms ∧ ∀ B' H', Gr [] B H B' H' → Q (.bl true) H'
theorem al0 {B H : Hp} {p : Addr} (S : Same B H) (hp : H p = none) (o : HO) : Gr [] B H (upd B p o) (upd H p o) ∧ upd B p o p = some o := ⟨Gr.new S hp, upd_same⟩
/-- numbers as data of the law -/
def numT : List Nat → TT
  | [] => .nil
  | m :: ms => .cons (.v (.int (m : Int))) (numT ms)
theorem numT_it : ∀ ms, (numT ms).isIt = false := fun ms => by cases ms <;> rfl
theorem numT_dep : ∀ ms, (numT ms).dep = 0
  | [] => rfl
  | m :: ms => by
    have := numT_dep ms
    simp only [numT, TT.dep, this]
    decide
theorem rep_num {B : Hp} : ∀ ms : List Nat, Rep B (numT ms) (ms.map nV)
  | [] => rfl
  | m :: ms => ⟨nV m, ms.map nV, rfl, ⟨rfl, numT_it ms⟩, ⟨rfl, rfl⟩, rep_num ms⟩
theorem rep_tupN {B : Hp} {p : Addr} {ms : List Nat} (h : B p = some (.tup (ms.map nV))) (hl : ms.length ≤ 100000) : Rep B (.tup (numT ms)) [.ref p] := ⟨p, _, rfl, h, by simpa using hl, numT_it ms, rep_num ms⟩
def missT : Option (List Nat) → TT
  | none => .v .non
  | some l => .tup (numT l)
theorem missT_it (m : Option (List Nat)) : (missT m).isIt = true := by cases m <;> rfl
theorem missT_dep (m : Option (List Nat)) : (missT m).dep ≤ 1 := by
  cases m with
  | none => exact Nat.zero_le _
  | some l => simp only [missT, TT.dep, numT_dep]; decide
theorem rep_miss {B : Hp} {v : V} {m : Option (List Nat)} (h : MissV B v m) (hl : ∀ l, m = some l → l.length ≤ 100000) : Rep B (missT m) [v] := by
  cases m with
  | none => cases h; exact ⟨rfl, rfl⟩
  | some l =>
    obtain ⟨p, rfl, hp⟩ := h
    exact rep_tupN hp (hl l rfl)
theorem MissV.mono {B B' : Hp} {v : V} {m : Option (List Nat)} (s : Same B B') (h : MissV B v m) : MissV B' v m := by
  cases m with
  | none => exact h
  | some l => obtain ⟨p, e, hp⟩ := h; exact ⟨p, e, s _ _ hp⟩
theorem dueMiss_len (w : Str) (ms : List Nat) : ∀ l, dueMiss w ms = some l → l.length ≤ 100000 := fun l h => by
  unfold dueMiss at h
  split at h
  · cases h
  · cases h
    refine Nat.le_trans (List.length_filter_le _ _) ?_
    simp
theorem bl_ne (b : Bool) : (!decide (V.bl b = V.bl b)) = false := by simp
section
variable {P : Program} {w : World} {K : PySem.W.Frag} {mg : Str → Option Value} {base : Heap}
theorem ok_right (T : Txt K mg) (Dlaw_lot : DefOk P w K mg base CX0 6 "_law_lot" p_law_lot (spLot K)) (Dlaw_told_numbers : DefOk P w K mg base CX0 2 "_law_told_numbers" p_law_told_numbers (spTold K)) (Dlaw_least_makers : DefOk P w K mg base CX0 1 "_law_least_makers" p_law_least_makers (spLeastM K))
    (Dlaw_is : DefOk P w K mg base CX0 4 "_law_is" p_law_is (spIs K 3)) (Dlaw_flag : DefOk P w K mg base CX0 1 "_law_flag" p_law_flag (spFlag K)) (Dholds : DefOk P w K mg base CX0 3 "holds" p_holds (spHolds K)) (Dmissing : DefOk P w K mg base CX0 3 "missing" p_missing (spMissing K)) (Dlaw_due_missing : DefOk P w K mg base CX0 3 "_law_due_missing" p_law_due_missing (spDueMiss K)) :
    DefOk P w K mg base CX0 7 "_law_right" p_law_right (spRight K) := by
  refine T.d_law_right.ok sc_law_right (fun _ _ _ _ _ _ us hl => match us, hl with | [_, _], _ => rfl) (fun vs H Q E h => ?_) (fun fa cdv A outer s H vs Q E hr h => ?_)
  · obtain ⟨B, x, v, w, ms, rfl, _⟩ := h
    rfl
  · obtain ⟨B, x, v, wd, ms, rfl, hS, hsp, hG, k⟩ := h
    have hsp0 := hsp
    obtain ⟨sp, p, rfl, hs, hp⟩ := hsp
    refine ⟨_, PSs.nox (pss_cons (ps_set (i := 2) sc_law_right.nd rfl (Or.inr rfl) (pe_callD Dlaw_lot (hr.mono (by first | decide | omega)) rfl pass0 (pa_cons (pv 1) pa_nil)))
    (pss_cons (ps_set (i := 3) sc_law_right.nd rfl (Or.inr rfl) (pe_callD Dlaw_told_numbers (hr.mono (by first | decide | omega)) rfl pass0 (pa_cons (pv 1) (pa_cons pe_int pa_nil))))
    (pss_cons (ps_set (i := 4) sc_law_right.nd rfl (Or.inl rfl) (pe_ifExp (pt_cmpR op_eq (pe_ix ix_tup (pv 1) pe_int (fun _ _ => rfl)) pe_str (nomark _)) (pe_callD Dlaw_least_makers (hr.mono (by first | decide | omega)) rfl pass0 (pa_cons (pe_op op_cat (pe_lst (pa_cons pe_bl pa_nil)) (pe_slice sl_list (pv 3) (po_some pe_int) po_none)) pa_nil)) (pe_tup pa_nil)))
    (pss_cons (ps_if (PW.pt (pw_or (pt_cmpR op_ne (pe_fld (pv 2) rfl) (pe_ix ix_tup (pv 1) pe_int (fun _ _ => rfl)) (nomark _)) (pw_or1 (pt_not (pt_val (pe_callD Dlaw_is (hr.mono (by first | decide | omega)) rfl pass0 (pa_cons (pe_fld (pv 2) rfl) (pa_cons (pv 4) pa_nil))))))))
      (pss_one (ps_ret pe_bl))
      pss_nil)
    (pss_cons (ps_if (pt_not (pt_val (pe_callB (cr_all rfl) (by rfl) T.f_all (by decide +kernel) (pa_cons (pe_lc (own := [("_law_number", 5)]) (g := gName 5) (tt := tYes) rfl sc_law_right.nd (pi_range1 (by rfl) T.f_range (pa_cons pe_int pa_nil)) (blkOk_by (own := [("_law_number", 5)]) (N := n_law_right) (sc := defScope s_law_right) (by decide +kernel)) (fun _ _ _ _ _ => (pg_name (i := 5) sc_law_right.nd rfl (Or.inl rfl))) (fun _ _ _ _ _ => pts_nil) (fun _ _ _ _ _ => (pe_callD Dlaw_flag (hr.mono (by first | decide | omega)) rfl pass0 (pa_cons (pe_callD Dholds (hr.mono (by first | decide | omega)) rfl pass0 (pa_cons (pv 2) (pa_cons (pv 5) pa_nil))) (pa_cons (pe_ix (r := rIxL K) ix_list (pv 3) (pv 5) (fun _ _ => rfl)) pa_nil))))) pa_nil))))
      (pss_one (ps_ret pe_bl))
      pss_nil)
    (pss_one (ps_ret (pe_callD Dlaw_is (hr.mono (by first | decide | omega)) rfl pass0 (pa_cons (pe_lst (pa_cons (pe_callD Dmissing (hr.mono (by first | decide | omega)) rfl pass0 (pa_cons (pv 2) pa_nil)) pa_nil)) (pa_cons (pe_lst (pa_cons (pe_callD Dlaw_due_missing (hr.mono (by first | decide | omega)) rfl pass0 (pa_cons (pv 1) pa_nil)) pa_nil)) pa_nil)))))))))), ?_⟩
    walk_at "go"
    refine ⟨B, _, wd, ms, rfl, hS, hsp0, hG, fun B1 H1 xl nd f g1 hL hM => ?_⟩
    have hsp1 := hsp0.mono g1.bb
    have hs1 := g1.bb _ _ hs
    walk_at "go"
    refine ⟨B1, _, wd, ms, 60, rfl, g1.bh, hsp1, hG, by decide, by decide, fun B2 H2 q g2 hq => ?_⟩
    have g12 := g1.trans g2
    have hsp2 := hsp1.mono g2.bb
    have hs2 := g2.bb _ _ hs1
    have hL2 := hL.mono g2.bb
    dsimp only
    refine i_seq (i_asgK (fun x H' => ∃ B' pd, x = .ref pd ∧ Gr [] B H B' H' ∧ Same B2 B' ∧ B' pd = some (.tup (nd.map nV))) (fun R hR => ?_) ?_)
    · walk_at "go"
      refine i_ixT (SqT.of (g12.bh _ _ hs2)) atI0 ?_
      walk_at "go"
      rw [dS]
      refine i_case (fun c => ?_) (fun c => ?_)
      · have hm : wd = "more" := of_decide_eq_true c
        walk_at "go"
        refine ⟨sz5 (by simp), fun q1 hq1 => ?_⟩
        obtain ⟨g3, e3⟩ := al0 g12.bh hq1 (.lst [.bl false])
        have hq' := g3.bb _ _ hq
        walk_at "go"
        refine ⟨q, _, rfl, SqL.of (g3.bh _ _ hq'), fun q2 hq2 => ?_⟩
        obtain ⟨g4, e4⟩ := al0 g3.bh hq2 (.lst (cutV (((List.range (60 + 1)).map (heldB wd ms)).map V.bl) (some 2) none))
        have e3' := g4.bb _ _ e3
        refine ⟨q1, q2, _, _, rfl, rfl, g4.bh _ _ e3', g4.bh _ _ e4, sz5 (by have := cutV_length (((List.range (60 + 1)).map (heldB wd ms)).map V.bl) (some 2) none; simp at this ⊢; omega), fun q3 hq3 => ?_⟩
        obtain ⟨g5, e5⟩ := al0 g4.bh hq3 (.lst ([V.bl false] ++ cutV (((List.range (60 + 1)).map (heldB wd ms)).map V.bl) (some 2) none))
        obtain ⟨l, hl, end_⟩ := hM.l
        subst end_
        have ec : [V.bl false] ++ cutV (((List.range (60 + 1)).map (heldB wd ms)).map V.bl) (some 2) none = (false :: (List.range 59).map fun i => genB l (i + 1)).map V.bl := by
          have e0 : cutV (((List.range (60 + 1)).map (heldB wd ms)).map V.bl) (some 2) none = (((List.range (60 + 1)).map (heldB wd ms)).map V.bl).drop 2 := by
            unfold cutV
            rw [List.length_map, List.length_map, List.length_range]
            exact List.take_of_length_le (by rw [List.length_drop, List.length_map, List.length_map, List.length_range]; exact Nat.le_refl _)
          rw [e0, List.map_cons, List.singleton_append]
          refine congrArg (V.bl false :: ·) ?_
          rw [← List.map_drop, ← List.map_drop]
          have e1 : (List.range (60 + 1)).drop 2 = (List.range 59).map (2 + ·) := by rw [show 60 + 1 = 2 + 59 by decide, List.range_add, List.drop_left' (by simp)]
          rw [e1, List.map_map, List.map_map, List.map_map]
          refine List.map_congr_left fun i _ => ?_
          show V.bl (heldB wd ms (2 + i)) = V.bl (genB l (i + 1))
          rw [hm, held_more, decide_eq_true (by omega), Bool.true_and, show 2 + i - 1 = i + 1 by omega, genB_congr (asc_gen hl)]
        replace e5 := e5.trans (congrArg (fun z => some (HO.lst z)) ec)
        refine ⟨_, q3, l, false, 59, rfl, g5.bh, g5.bh _ _ e5, hl.1, fun m hm' => ?_, by decide, fun B6 H6 qq g6 hqq => ?_⟩
        · have := hG.ok m ((hl.2 m).mp hm'); omega
        · exact hR _ _ ⟨B6, qq, rfl, (((g12.trans g3).trans g4).trans g5).trans g6, ((g3.bb.trans g4.bb).trans g5.bb).trans g6.bb, hqq⟩
      · walk_at "go"
        refine ⟨sz5 (by simp), fun q1 hq1 => ?_⟩
        obtain ⟨g3, e3⟩ := al0 g12.bh hq1 (.tup [])
        obtain ⟨l, hl, end_⟩ := hM.l
        have en : nd = [] := by
          have hm : wd ≠ "more" := of_decide_eq_false c
          have : ¬ 0 < ms.length := fun z => hm (hG.iff.mp z)
          have e0 : ms = [] := by cases ms with
            | nil => rfl
            | cons a r => exact absurd (Nat.zero_lt_succ _) this
          subst e0
          cases l with
          | nil => exact end_
          | cons a r => exact absurd ((hl.2 a).mp (List.mem_cons_self ..)) (fun z => nomatch z)
        subst en
        exact hR _ _ ⟨_, q1, rfl, g12.trans g3, g3.bb, e3⟩
    · rintro x H3 ⟨B3, pd, rfl, g3, s3, hpd⟩
      have hsp3 := hsp2.mono s3
      have hs3 := s3 _ _ hs2
      have hL3 := hL2.mono s3
      have hq3 := s3 _ _ hq
      clear hL hL2 hq hs2 hs1 hsp1 hsp2 g1 g2 g12 hs hsp0
      obtain ⟨dx, fs, hx, hF⟩ := hL3
      have hndl : nd.length ≤ 100000 := by
        obtain ⟨l, hl, e⟩ := hM.l
        have h1 := need_len l
        have h2 := asc_le hl
        have h3 := hG.len
        rw [e]
        omega
      walk_at "go"
      refine ⟨xl, _, dx, fs, _, rfl, g3.bh _ _ hx, T.x_Lot, T.na_word, hF.word, ?_⟩
      walk_at "go"
      refine i_ixT (SqT.of (g3.bh _ _ hs3)) atI0 ?_
      walk_at "go"
      rw [dS, decide_eq_true rfl]
      walk_at "go"
      obtain ⟨pm, hm1, hm2⟩ := hF.mks
      refine ⟨xl, _, dx, fs, _, rfl, g3.bh _ _ hx, T.x_Lot, T.na_makers, hm1, ?_⟩
      walk_at "go"
      refine ⟨B3, _, _, .tup (numT nd), rfl, g3.bh, rfl, rep_tupN hm2 hndl, rep_tupN hpd hndl, by simp only [TT.dep, numT_dep]; decide, fun B4 H4 g4 => ?_⟩
      have g34 := g3.trans g4
      have hsp4 := hsp3.mono g4.bb
      have hq4 := g4.bb _ _ hq3
      have hx4 := g4.bb _ _ hx
      have hF4 := hF.mono g4.bb
      have hL4 : LotAt K B4 xl wd nd f := ⟨dx, fs, hx4, hF4⟩
      clear hpd hm2 hx hF hs3 hsp3 hq3 g4
      walk_at "go"
      refine ⟨_, rfl, by omega, by omega, fun D hD => lc_range (lo := 0) (n := ((61 : Int)).toNat) (fun i H' => ∃ B', Gr [] B H B' H' ∧ Same B4 B' ∧ Own B' H' D (.lst ((List.replicate i true).map V.bl))) ⟨B4, g34.trans (Gr.cell g34.bh hD), Same.refl _, Own.cell g34.bh hD⟩ ?_ ?_⟩
      · rintro i H5 hi ⟨B5, g5, s5, o5⟩
        have hi' : i < 61 := hi
        rw [show (0 : Int) + (i : Int) = (i : Int) by omega]
        walk_at "go"
        refine ⟨rfl, ?_⟩
        walk_at "go"
        refine ⟨B5, xl, i, wd, nd, f, rfl, by omega, g5.bh, hL4.mono s5, hG.word, fun z => more_pos hG hM z, ?_⟩
        walk_at "go"
        refine i_ixL (SqL.of (g5.bh _ _ (s5 _ _ hq4))) (atI_nat (v := .bl (heldB wd ms i)) (by rw [List.map_map, List.getElem?_map, List.getElem?_range (by omega)]; rfl)) ?_
        walk_at "go"
        refine ⟨_, _, rfl, ?_⟩
        rw [held_eq hG hM, show (heldB wd ms i == heldB wd ms i) = true by simp]
        refine ⟨_, o5.2, sz5' (by simp; omega), B5, g5.put (g34.fresh hD) o5, s5, o5.1, ?_⟩
        rw [upd_same, List.replicate_succ', List.map_append]
        rfl
      · rintro H5 ⟨B5, g5, s5, o5⟩
        walk_at "go"
        refine i_all (SqL.of o5.2) ?_
        have e5 : (List.replicate ((61 : Int)).toNat true).all id = true := by decide
        rw [e5]
        walk_at "go"
        have hsp5 := hsp4.mono s5
        have hL5 := hL4.mono s5
        walk_at "go"
        refine ⟨B5, xl, wd, nd, f, rfl, g5.bh, hL5, hG.word, fun z => more_pos hG hM z, Nat.le_trans (maxO_le hG hM) (by decide), fun B6 H6 v6 g6 m6 => ?_⟩
        rw [miss_eq hG hM] at m6
        have g56 := g5.trans g6
        walk_at "go"
        refine ⟨sz5 (by simp), fun q7 hq7 => ?_⟩
        obtain ⟨g7, e7⟩ := al0 g56.bh hq7 (.lst [v6])
        have m7 := m6.mono g7.bb
        have g57 := g56.trans g7
        have hsp7 := (hsp5.mono g6.bb).mono g7.bb
        walk_at "go"
        refine ⟨_, _, wd, ms, rfl, g7.bh, hsp7, hG, fun B8 H8 v8 g8 m8 => ?_⟩
        have g58 := g57.trans g8
        walk_at "go"
        refine ⟨sz5 (by simp), fun q9 hq9 => ?_⟩
        obtain ⟨g9, e9⟩ := al0 g58.bh hq9 (.lst [v8])
        have m9 := m8.mono g9.bb
        have m79 := (m7.mono g8.bb).mono g9.bb
        have e79 := g9.bb _ _ (g8.bb _ _ e7)
        walk_at "go"
        have one : ∀ (B' : Hp) (q : Addr) (v : V), B' q = some (.lst [v]) → Rep B' (missT (dueMiss wd ms)) [v] → Rep B' (.lst (.cons (missT (dueMiss wd ms)) .nil)) [.ref q] := fun B' q v h1 h2 => ⟨q, [v], rfl, h1, by simp, rfl, v, [], rfl, ⟨missT_it _, rfl⟩, h2, rfl⟩
        refine ⟨_, _, _, .lst (.cons (missT (dueMiss wd ms)) .nil), rfl, g9.bh, rfl, one _ _ _ e79 (rep_miss m79 (dueMiss_len wd ms)), one _ _ _ e9 (rep_miss m9 (dueMiss_len wd ms)), ?_, fun B10 H10 g10 => ?_⟩
        · have := missT_dep (dueMiss wd ms)
          simp only [TT.dep]
          omega
        · exact k _ _ ((g58.trans g9).trans g10)
end

end K01
set_option maxRecDepth 100000
set_option maxHeartbeats 2000000
namespace K01
open PySem PySem.Spec PyProof.Rows L2 Us
theorem i_catchB {te : TE} {σ : L2.St} {H : Hp} {Q : VK} (P : V → Hp → Prop) (h : ∀ R : VK, (∀ x H', P x H' → R x H') → te σ H R) (k : ∀ x H', P x H' → Q x H') : te σ H Q := h _ k
theorem lotDue_mono {K : PySem.W.Frag} {B B' : Hp} {w v : V} (s : Same B B') (h : Things K B v) : lotDue B' w v = lotDue B w v := by
  unfold lotDue
  rw [tupOf_mono s h.1]
theorem dcl_sp {K : PySem.W.Frag} {B : Hp} {v : V} {w : Str} {ms : List Nat} (h : SpecAt B v w ms) : True := True.intro
def spLaw (K : PySem.W.Frag) : Sp := fun vs H Q _ => ∃ (a : Addr) (ns : List Int), vs = [.ref a] ∧ SqL K H a (ns.map V.int) ∧ ns.length ≤ 63 ∧ ∀ H', Q (.bl true) H'
def dueT : Option Str → TT
  | none => .v .non
  | some z => .v (.str z)
theorem dueT_it (m : Option Str) : (dueT m).isIt = true := by cases m <;> rfl
theorem dueT_dep (m : Option Str) : (dueT m).dep = 0 := by cases m <;> rfl
theorem rep_due {B : Hp} (m : Option Str) : Rep B (dueT m) [optS m] := by cases m <;> exact ⟨rfl, rfl⟩
def tnV : V → Nat
  | .int i => i.toNat
  | _ => 0
theorem perm_nV {us : List V} {ms : List Nat} (h : us.Perm (ms.map nV)) : ∃ ms' : List Nat, us = ms'.map nV ∧ ms'.Perm ms := by
  refine ⟨us.map tnV, ?_, ?_⟩
  · rw [List.map_map]
    symm
    refine (List.map_congr_left fun u hu => ?_).trans (List.map_id _)
    obtain ⟨m, _, rfl⟩ := List.mem_map.mp (h.mem_iff.mp hu)
    show nV (tnV (nV m)) = nV m
    unfold tnV
    simp
  · have e := h.map tnV
    rw [List.map_map, show (tnV ∘ nV) = id from funext fun m => by unfold tnV; simp, List.map_id] at e
    exact e
theorem lotS_perm {ms ms' : List Nat} (h : ms'.Perm ms) (S : LotS "more" ms) : LotS "more" ms' :=
  ⟨S.word, fun m hm => S.ok m (h.mem_iff.mp hm), by rw [h.length_eq]; exact S.len, by rw [h.length_eq]; exact S.iff⟩
theorem lotAt_nf {K : PySem.W.Frag} {mg : Str → Option Value} (T : Txt K mg) {B H : Hp} {q : Addr} {w : Str} {nd : List Nat} {f : List (Option Nat)} (s : Same B H) (h : LotAt K B q w nd f) : NotFirst K (LotC K) H (.ref q) := by
  obtain ⟨dx, fs, e, _⟩ := h
  exact ⟨_, ins_ty (s _ _ e) T.ow_Lot, by unfold PySem.W.notFirst; simp⟩
theorem comP_pos (ms : List Nat) : 0 < comP ms := by
  have : 1 ≤ comP ms := fold_ge _ _ _ (.inl (by
    unfold comL
    refine List.mem_filter.mpr ⟨List.mem_map.mpr ⟨0, by simp, rfl⟩, ?_⟩
    exact List.all_eq_true.mpr fun m _ => decide_eq_true (Nat.mod_one m)))
  omega
theorem decL {α : Type} [DecidableEq α] (xs ys : List α) : (decide (xs = ys) == decide (xs = ys)) = true := by simp
section
variable {P : Program} {w : World} {K : PySem.W.Frag} {mg : Str → Option Value} {base : Heap}
theorem ok_law (T : Txt K mg)
    (Dlaw_hand : DefOk P w K mg base CX0 1 "_law_hand" p_law_hand (spHand K)) (Dlaw_lot_spec : DefOk P w K mg base CX0 3 "_law_lot_spec" p_law_lot_spec (spSpec K)) (Dlaw_draw : DefOk P w K mg base CX0 1 "_law_draw" p_law_draw (spDraw K)) (Dlaw_shuffled : DefOk P w K mg base CX0 2 "_law_shuffled" p_law_shuffled (spShuf K))
    (Dlaw_right : DefOk P w K mg base CX0 7 "_law_right" p_law_right (spRight K)) (Dlaw_told_numbers : DefOk P w K mg base CX0 2 "_law_told_numbers" p_law_told_numbers (spTold K)) (Dlaw_flag : DefOk P w K mg base CX0 1 "_law_flag" p_law_flag (spFlag K)) (Dlaw_lot : DefOk P w K mg base CX0 6 "_law_lot" p_law_lot (spLot K))
    (Dlaw_common_part : DefOk P w K mg base CX0 1 "_law_common_part" p_law_common_part (spCommon K)) (Dholds : DefOk P w K mg base CX0 3 "holds" p_holds (spHolds K)) (Dlaw_bent : DefOk P w K mg base CX0 3 "_law_bent" p_law_bent (spBent K)) (Dlaw_is : DefOk P w K mg base CX0 4 "_law_is" p_law_is (spIs K 3))
    (Dlaw_told_part : DefOk P w K mg base CX0 6 "_law_told_part" p_law_told_part (spToldPart K)) (Dlaw_due_part : DefOk P w K mg base CX0 1 "_law_due_part" p_law_due_part (spDuePart K))
    {fq : FuncData} (Geq : FnOk P w K mg base CX0 1 (He.ma K (He.ga K "Lot") "__eq__") fq p_Lot__eq (spEq K)) (beq : L2.Binds K fq p_Lot__eq [])
    {f : Addr} {fd : FuncData} (F : FunD K "law" "law" (defArgs s_law) (defBody s_law) (defScope s_law) [] [] f fd) : FnOk P w K mg base CX0 9 f fd p_law (spLaw K) := by
  refine F.ok sc_law (fun vs H Q E h => ?_) (fun cdv A outer s H vs Q E hr h => ?_)
  · obtain ⟨a, ns, rfl, _⟩ := h
    rfl
  · obtain ⟨sc, ns, rfl, hL, hn, k⟩ := h
    refine ⟨_, PSs.nox (pss_cons (ps_set (i := 1) sc_law.nd rfl (Or.inl rfl) (pe_callD Dlaw_hand (hr.mono (by first | decide | omega)) rfl pass0 (pa_cons (pv 0) pa_nil)))
    (pss_cons (ps_par (i := 2) (j := 3) (by rfl) sc_law.nd rfl rfl (by decide) rfl rfl (pa_cons (pe_callD Dlaw_lot_spec (hr.mono (by first | decide | omega)) rfl pass0 (pa_cons (pv 1) pa_nil)) (pa_cons (pe_callD Dlaw_lot_spec (hr.mono (by first | decide | omega)) rfl pass0 (pa_cons (pv 1) pa_nil)) pa_nil)) (by rfl))
    (pss_cons (ps_if (PW.pt (pw_and (pt_cmpR op_eq (pe_callD Dlaw_draw (hr.mono (by first | decide | omega)) rfl pass0 (pa_cons (pv 1) (pa_cons pe_int pa_nil))) pe_int (nomark _)) (pw_and1 (pt_cmpR op_eq (pe_ix ix_tup (pv 2) pe_int (fun _ _ => rfl)) pe_str (nomark _)))))
      (pss_one (ps_set (i := 3) sc_law.nd rfl (Or.inl rfl) (pe_tup (pa_cons pe_str (pa_cons (pe_callTy call_tupU (by rfl) T.f_tuple (by decide +kernel) (pa_cons (pe_callD Dlaw_shuffled (hr.mono (by first | decide | omega)) rfl pass0 (pa_cons (pv 1) (pa_cons (pe_ix ix_tup (pv 2) pe_int (fun _ _ => rfl)) pa_nil))) pa_nil)) (pa_cons pe_non pa_nil))))))
      pss_nil)
    (pss_cons (ps_if (PW.pt (pw_or (pt_not (pt_val (pe_callD Dlaw_right (hr.mono (by first | decide | omega)) rfl pass0 (pa_cons (pv 1) (pa_cons (pv 2) pa_nil))))) (pw_or1 (pt_not (pt_val (pe_callD Dlaw_right (hr.mono (by first | decide | omega)) rfl pass0 (pa_cons (pv 1) (pa_cons (pv 3) pa_nil))))))))
      (pss_one (ps_ret pe_bl))
      pss_nil)
    (pss_cons (ps_set (i := 4) sc_law.nd rfl (Or.inl rfl) (pe_cmpR (op_eqD hr.units) (pe_callD Dlaw_told_numbers (hr.mono (by first | decide | omega)) rfl pass0 (pa_cons (pv 2) (pa_cons pe_int pa_nil))) (pe_callD Dlaw_told_numbers (hr.mono (by first | decide | omega)) rfl pass0 (pa_cons (pv 3) (pa_cons pe_int pa_nil))) (nomark _)))
    (pss_cons (ps_if (PW.pt (pw_or (pt_not (pt_val (pe_callD Dlaw_flag (hr.mono (by first | decide | omega)) rfl pass0 (pa_cons (pe_cmpR (op_eqO Geq T.oq_Lot beq pass0 (hr.mono (by decide))) (pe_callD Dlaw_lot (hr.mono (by first | decide | omega)) rfl pass0 (pa_cons (pv 2) pa_nil)) (pe_callD Dlaw_lot (hr.mono (by first | decide | omega)) rfl pass0 (pa_cons (pv 3) pa_nil)) (nomark _)) (pa_cons (pv 4) pa_nil))))) (pw_or1 (pt_not (pt_val (pe_callD Dlaw_flag (hr.mono (by first | decide | omega)) rfl pass0 (pa_cons (pe_cmpR (op_neO Geq T.oq_Lot beq pass0 (hr.mono (by decide))) (pe_callD Dlaw_lot (hr.mono (by first | decide | omega)) rfl pass0 (pa_cons (pv 2) pa_nil)) (pe_callD Dlaw_lot (hr.mono (by first | decide | omega)) rfl pass0 (pa_cons (pv 3) pa_nil)) (nomark _)) (pa_cons (pe_not (pv 4)) pa_nil))))))))
      (pss_one (ps_ret pe_bl))
      pss_nil)
    (pss_cons (ps_if (pt_cmpR (op_inO Geq T.oq_Lot beq pass0 (hr.mono (by decide))) (pe_callD Dlaw_lot (hr.mono (by first | decide | omega)) rfl pass0 (pa_cons (pv 2) pa_nil)) (pe_lst (pa_cons (pe_ix ix_tup (pv 2) pe_int (fun _ _ => rfl)) (pa_cons (pe_ix ix_tup (pv 2) pe_int (fun _ _ => rfl)) (pa_cons (pe_tup (pa_cons (pe_ix ix_tup (pv 2) pe_int (fun _ _ => rfl)) (pa_cons (pe_ix ix_tup (pv 2) pe_int (fun _ _ => rfl)) pa_nil))) (pa_cons pe_non pa_nil))))) (by rfl))
      (pss_one (ps_ret pe_bl))
      pss_nil)
    (pss_cons (ps_if (pt_cmpR op_eq (pe_callD Dlaw_draw (hr.mono (by first | decide | omega)) rfl pass0 (pa_cons (pv 1) (pa_cons pe_int pa_nil))) pe_int (nomark _))
      (pss_cons (ps_set (i := 5) sc_law.nd rfl (Or.inl rfl) (pe_op op_add pe_int (pe_callD Dlaw_draw (hr.mono (by first | decide | omega)) rfl pass0 (pa_cons (pv 1) (pa_cons pe_int pa_nil)))))
      (pss_cons (ps_set (i := 6) sc_law.nd rfl (Or.inl rfl) (pe_and (pe_cmpR op_eq (pe_ix ix_tup (pv 2) pe_int (fun _ _ => rfl)) pe_str (nomark _)) (pe_one (pe_cmpR op_eq (pe_op op_mod (pe_callTy call_intU (by rfl) T.f_int (by decide +kernel) (pa_cons (pe_op op_sub (pv 5) pe_int) pa_nil)) (pe_callD Dlaw_common_part (hr.mono (by first | decide | omega)) rfl pass0 (pa_cons (pe_ix ix_tup (pv 2) pe_int (fun _ _ => rfl)) pa_nil))) pe_int (nomark _)))))
      (pss_one (ps_if (pt_not (pt_val (pe_callD Dlaw_flag (hr.mono (by first | decide | omega)) rfl pass0 (pa_cons (pe_callD Dholds (hr.mono (by first | decide | omega)) rfl pass0 (pa_cons (pe_callD Dlaw_lot (hr.mono (by first | decide | omega)) rfl pass0 (pa_cons (pv 2) pa_nil)) (pa_cons (pv 5) pa_nil))) (pa_cons (pe_or (pv 6) (pe_one (pe_cmpR op_eq (pe_ix ix_tup (pv 2) pe_int (fun _ _ => rfl)) pe_str (nomark _)))) pa_nil)))))
        (pss_one (ps_ret pe_bl))
        pss_nil))))
      pss_nil)
    (pss_cons (ps_for PassesOwn.never rfl (pi_range1 (by rfl) T.f_range (pa_cons pe_int pa_nil)) (pg_name (i := 7) sc_law.nd rfl (Or.inl rfl))
      (pss_cons (ps_asg (pe_callD Dlaw_bent (hr.mono (by first | decide | omega)) rfl pass0 (pa_cons (pv 1) (pa_cons (pv 2) pa_nil))) (pg_tup (by rfl) (pgs_cons (pg_name (i := 8) sc_law.nd rfl (Or.inl rfl)) (pgs_cons (pg_name (i := 9) sc_law.nd rfl (Or.inl rfl)) pgs_nil))))
      (pss_one (ps_if (pt_not (pt_val (pe_callD Dlaw_is (hr.mono (by first | decide | omega)) rfl pass0 (pa_cons (pe_lst (pa_cons (pe_callD Dlaw_told_part (hr.mono (by first | decide | omega)) rfl pass0 (pa_cons (pv 8) (pa_cons (pv 9) pa_nil))) pa_nil)) (pa_cons (pe_lst (pa_cons (pe_callD Dlaw_due_part (hr.mono (by first | decide | omega)) rfl pass0 (pa_cons (pv 8) (pa_cons (pv 9) pa_nil))) pa_nil)) pa_nil)))))
        (pss_one (ps_ret pe_bl))
        pss_nil))))
    (pss_one (ps_ret pe_bl))))))))))), ?_⟩
    walk_at "go"
    refine ⟨sc, ns, rfl, hL, hn, fun B0 H0 a g0 _ hA0 => ?_⟩
    walk_at "go"
    refine ⟨B0, a, rfl, g0.bh, hA0, fun B1 H1 v1 w1 ms1 g1 hA1 sp1 S1 => ?_⟩
    walk_at "go"
    refine ⟨B1, a, rfl, g1.bh, hA1, fun B2 H2 v2 w2 ms2 g2 hA2 sp2 S2 => ?_⟩
    replace sp1 := sp1.mono g2.bb
    have hS2 := g2.bh
    clear g0 g1 g2 hA0 hA1
    refine i_nil (i_two ?_)
    dsimp only
    refine i_seq (i_join (fun σ' H' => ∃ B' v2' w2' ms2', σ' = [some (.ref sc), some (.ref a), some v1, some v2', none, none, none, none, none, none] ∧ Same B' H' ∧ HandAt B' H' a ∧ SpecAt B' v1 w1 ms1 ∧ SpecAt B' v2' w2' ms2' ∧ LotS w2' ms2') ?_ (fun hr' => ?_))
    · clear hA2 sp2 S2 sp1 hS2
      rintro σ' H3 ⟨B3, v2, w2, ms2, rfl, hS3, hA3, sp1, sp2, S2⟩
      walk_at "go"
      refine ⟨B3, _, v1, w1, ms1, rfl, hS3, sp1, S1, fun B4 H4 g4 => ?_⟩
      have hA4 := hA3.mono g4 (fun z => nomatch z)
      have sp14 := sp1.mono g4.bb
      have sp24 := sp2.mono g4.bb
      walk_at "go"
      refine ⟨B4, _, v2, w2, ms2, rfl, g4.bh, sp24, S2, fun B5 H5 g5 => ?_⟩
      have hA5 := hA4.mono g5 (fun z => nomatch z)
      replace sp1 := sp14.mono g5.bb
      replace sp2 := sp24.mono g5.bb
      have hS5 := g5.bh
      clear hA3 hA4 g4 g5 sp14 sp24
      walk_at "go"
      refine ⟨B5, v1, w1, ms1, 160, rfl, hS5, sp1, S1, by decide, by decide, fun B6 H6 q6 g6 e6 => ?_⟩
      have hA6 := hA5.mono g6 (fun z => nomatch z)
      replace sp1 := sp1.mono g6.bb
      replace sp2 := sp2.mono g6.bb
      walk_at "go"
      refine ⟨B6, v2, w2, ms2, 160, rfl, g6.bh, sp2, S2, by decide, by decide, fun B7 H7 q7 g7 e7 => ?_⟩
      have hA7 := hA6.mono g7 (fun z => nomatch z)
      replace sp1 := sp1.mono g7.bb
      replace sp2 := sp2.mono g7.bb
      replace e6 := g7.bb _ _ e6
      have hS7 := g7.bh
      refine i_eqLb (g7.bh _ _ e6) (g7.bh _ _ e7) ?_
      clear hA5 hA6 g6 g7 e6 e7 hS5
      walk_at "go"
      refine ⟨B7, v1, w1, ms1, rfl, hS7, sp1, S1, fun B8 H8 x8 nd1 f1 g8 L1 M1 => ?_⟩
      have hA8 := hA7.mono g8 (fun z => nomatch z)
      replace sp1 := sp1.mono g8.bb
      replace sp2 := sp2.mono g8.bb
      walk_at "go"
      refine ⟨B8, v2, w2, ms2, rfl, g8.bh, sp2, S2, fun B9 H9 x9 nd2 f2 g9 L2' M2 => ?_⟩
      have hA9 := hA8.mono g9 (fun z => nomatch z)
      replace sp1 := sp1.mono g9.bb
      replace sp2 := sp2.mono g9.bb
      replace L1 := L1.mono g9.bb
      have hS9 := g9.bh
      clear hA7 hA8 g8 g9 hS7
      have L1' := L1
      obtain ⟨dx, fs, ex, _⟩ := L1'
      refine ⟨x8, dx, fs, rfl, hS9 _ _ ex, lotAt_nf T hS9 L2', B9, x8, _, w1, nd1, f1, rfl, hS9, L1, .inl ⟨x9, w2, nd2, f2, rfl, L2', ⟨_, rfl, ?_⟩⟩⟩
      walk_at "go"
      refine ⟨_, _, rfl, ?_⟩
      rw [show ((List.range (160 + 1)) = List.range 161) from rfl, told_eq S1 M1 S2 M2, show ((decide (w1 = w2) && decide (nd1 = nd2)) == (decide (w1 = w2) && decide (nd1 = nd2))) = true by simp]
      walk_at "go"
      clear ex L1 L2'
      refine ⟨B9, v1, w1, ms1, rfl, hS9, sp1, S1, fun B8 H8 x8 nd1' f1' g8 L1 M1' => ?_⟩
      have hA8 := hA9.mono g8 (fun z => nomatch z)
      replace sp1 := sp1.mono g8.bb
      replace sp2 := sp2.mono g8.bb
      walk_at "go"
      refine ⟨B8, v2, w2, ms2, rfl, g8.bh, sp2, S2, fun B10 H10 x9 nd2' f2' g9 L2' M2' => ?_⟩
      have hA10 := hA8.mono g9 (fun z => nomatch z)
      replace sp1 := sp1.mono g9.bb
      replace sp2 := sp2.mono g9.bb
      replace L1 := L1.mono g9.bb
      have hS10 := g9.bh
      clear hA8 hA9 g8 g9 hS9
      have L1' := L1
      obtain ⟨dx, fs, ex, _⟩ := L1'
      refine ⟨x8, dx, fs, rfl, hS10 _ _ ex, lotAt_nf T hS10 L2', B10, x8, _, w1, nd1', f1', rfl, hS10, L1, .inl ⟨x9, w2, nd2', f2', rfl, L2', ⟨_, rfl, _, rfl, ?_⟩⟩⟩
      have e12 : (decide (w1 = w2) && decide (nd1' = nd2')) = (decide (w1 = w2) && decide (nd1 = nd2)) := (told_eq S1 M1' S2 M2').symm.trans (told_eq S1 M1 S2 M2)
      rw [e12]
      walk_at "go"
      refine ⟨_, _, rfl, ?_⟩
      rw [show ((!(decide (w1 = w2) && decide (nd1 = nd2))) == (!(decide (w1 = w2) && decide (nd1 = nd2)))) = true by simp]
      walk_at "go"
      clear ex L1 L2' M1 M2 M1' M2' e12 sp2 S2
      refine ⟨B10, v1, w1, ms1, rfl, hS10, sp1, S1, fun B8 H8 x8 nd1 f1 g8 L1 M1 => ?_⟩
      have hA8 := hA10.mono g8 (fun z => nomatch z)
      replace sp1 := sp1.mono g8.bb
      have hS8 := g8.bh
      clear hA10 g8 hS10
      have sp1' := sp1
      obtain ⟨s1, p1, rfl, hs1, hp1⟩ := sp1'
      walk_at "go"
      refine i_ixT (SqT.of (hS8 _ _ hs1)) atI0 ?_
      walk_at "go"
      refine i_ixT (SqT.of (hS8 _ _ hs1)) atI1 ?_
      walk_at "go"
      refine i_ixT (SqT.of (hS8 _ _ hs1)) atI0 ?_
      walk_at "go"
      refine i_ixT (SqT.of (hS8 _ _ hs1)) atI1 ?_
      walk_at "go"
      refine ⟨sz5 (by simp), fun q11 hq11 => ?_⟩
      obtain ⟨g11, e11⟩ := al0 hS8 hq11 (.tup [.str w1, .ref p1])
      have hA11 := hA8.mono g11 (fun z => nomatch z)
      replace sp1 := sp1.mono g11.bb
      replace L1 := L1.mono g11.bb
      replace hp1 := g11.bb _ _ hp1
      walk_at "go"
      refine ⟨sz5 (by simp), fun q12 hq12 => ?_⟩
      obtain ⟨g12, e12⟩ := al0 g11.bh hq12 (.lst [.str w1, .ref p1, .ref q11, .non])
      have hA12 := hA11.mono g12 (fun z => nomatch z)
      replace sp1 := sp1.mono g12.bb
      replace L1 := L1.mono g12.bb
      replace hp1 := g12.bb _ _ hp1
      replace e11 := g12.bb _ _ e11
      have hS12 := g12.bh
      clear hA8 hA11 g11 g12 hS8 hs1
      generalize upd (upd B8 _ _) _ _ = B12 at *
      generalize upd (upd H8 _ _) _ _ = H12 at *
      have L1' := L1
      obtain ⟨dx, fs, ex, _⟩ := L1'
      have nod : ∀ y, Dcl K B12 y → NoneIs K (He.ga K "Lot") (spEq K) E0 x8 H12 y := fun y hy => ⟨hy.mono hS12, B12, x8, y, w1, nd1, f1, rfl, hS12, L1, .inr ⟨hy, _, rfl, rfl, rfl⟩⟩
      refine ⟨x8, dx, fs, q12, _, rfl, hS12 _ _ ex, rfl, hS12 _ _ e12, fun y hy => ?_, ?_⟩
      · simp only [List.mem_cons, List.not_mem_nil, or_false] at hy
        rcases hy with rfl | rfl | rfl | rfl
        · exact nod _ (.str _)
        · exact nod _ (.tup hp1)
        · exact nod _ (.tup e11)
        · exact nod _ .non
      refine i_bl (iteF (i_next ?_))
      dsimp only
      clear nod e11 e12
      refine i_seq (i_join (fun σ' H' => ∃ B' v4 v5 v6, σ' = [some (.ref sc), some (.ref a), some (.ref s1), some v2, v4, v5, v6, none, none, none] ∧ Same B' H' ∧ HandAt B' H' a ∧ SpecAt B' (.ref s1) w1 ms1) ?_ (fun hr'' => ?_))
      · clear hA12 sp1 hp1 hS12 M1 L1 ex
        rintro σ' H3 ⟨B3, v4, v5, v6, rfl, hS3, hA3, sp1⟩
        walk_at "go"
        refine ⟨4, rfl, by decide, by decide, for_range (lo := 0) (n := 4) (fun i σ H' => ∃ B' v7 v8 v9, σ = [some (.ref sc), some (.ref a), some (.ref s1), some v2, v4, v5, v6, v7, v8, v9] ∧ Same B' H' ∧ HandAt B' H' a ∧ SpecAt B' (.ref s1) w1 ms1) ⟨B3, none, none, none, rfl, hS3, hA3, sp1⟩ ?_ ?_⟩
        · clear hA3 hS3 sp1
          rintro i σ H4 hi ⟨B4, v7, v8, v9, rfl, hS4, hA4, sp1⟩
          walk_at "go"
          refine ⟨B4, a, _, w1, ms1, rfl, hS4, hA4, sp1, S1, fun B5 H5 q w' v' g5 hA5 e5 sw tv => ?_⟩
          replace sp1 := sp1.mono g5.bb
          refine i_gtup (SqT.of (g5.bh _ _ e5)) rfl ?_
          walk_at "go"
          refine ⟨B5, w', v', rfl, g5.bh, sw, tv, fun B6 H6 g6 => ?_⟩
          have hA6 := hA5.mono g6 (fun z => nomatch z)
          replace sp1 := sp1.mono g6.bb
          have sw6 := sw.mono g6.bb
          have tv6 := tv.mono g6.bb
          rw [← lotDue_mono (w := w') g6.bb tv]
          have eL : lotDue B6 w' v' = lotDue B6 w' v' := rfl
          walk_at "go"
          refine ⟨sz5 (by simp), fun q7 hq7 => ?_⟩
          obtain ⟨g7, e7⟩ := al0 g6.bh hq7 (.lst [optS (lotDue B6 w' v')])
          have hA7 := hA6.mono g7 (fun z => nomatch z)
          replace sp1 := sp1.mono g7.bb
          have sw7 := sw6.mono g7.bb
          have tv7 := tv6.mono g7.bb
          walk_at "go"
          refine ⟨_, w', v', rfl, g7.bh, sw7, tv7, fun H8 g8 => ?_⟩
          have hA8 := hA7.mono g8 (fun z => nomatch z)
          rw [lotDue_mono (w := w') g7.bb tv6]
          walk_at "go"
          refine ⟨sz5 (by simp), fun q9 hq9 => ?_⟩
          obtain ⟨g9, e9⟩ := al0 g8.bh hq9 (.lst [optS (lotDue B6 w' v')])
          have hA9 := hA8.mono g9 (fun z => nomatch z)
          replace sp1 := sp1.mono g9.bb
          replace e7 := g9.bb _ _ (g8.bb _ _ e7)
          walk_at "go"
          have one : ∀ (B' : Hp) (q : Addr) (m : Option Str), B' q = some (.lst [optS m]) → Rep B' (.lst (.cons (dueT m) .nil)) [.ref q] := fun B' q m h1 => ⟨q, _, rfl, h1, by simp, rfl, _, [], rfl, ⟨dueT_it _, rfl⟩, rep_due m, rfl⟩
          refine ⟨_, _, _, .lst (.cons (dueT (lotDue B6 w' v')) .nil), rfl, g9.bh, rfl, one _ _ _ e7, one _ _ _ e9, by simp only [TT.dep, dueT_dep]; decide, fun B10 H10 g10 => ?_⟩
          walk_at "go"
          exact ⟨B10, _, _, _, rfl, g10.bh, hA9.mono g10 (fun z => nomatch z), sp1.mono g10.bb⟩
        · rintro σ H4 ⟨B4, v7, v8, v9, rfl, hS4, hA4, sp1⟩
          walk_at "go"
          exact k _
      · walk_at "go"
        refine ⟨B12, a, 8, rfl, by decide, by decide, hS12, hA12, fun H3 d g3 hA3 _ _ => ?_⟩
        walk_at "go"
        rw [dI]
        refine i_case (fun c => ?_) (fun c => ?_)
        · walk_at "go"
          refine ⟨B12, a, 1001, rfl, by decide, by decide, g3.bh, hA3, fun H4 d4 g4 hA4 d0 d1 => ?_⟩
          obtain ⟨n, rfl⟩ : ∃ n : Nat, d4 = (n : Int) := ⟨d4.toNat, by omega⟩
          have hS4 := g4.bh
          have sp1' := sp1
          obtain ⟨s1', p1', e1', hs1', hp1'⟩ := sp1'
          cases e1'
          refine i_rI0 ?_
          refine i_name ?_
          dsimp only
          refine i_seq (i_asgK (fun x H' => x = .bl (decide (w1 = "more") && decide ((9000 + n - 1) % comP ms1 = 0)) ∧ ∃ B', Same B' H' ∧ HandAt B' H' a ∧ SpecAt B' (.ref s1) w1 ms1) (fun R hR => ?_) ?_)
          · walk_at "go"
            refine i_ixT (SqT.of (hS4 _ _ hs1')) atI0 ?_
            walk_at "go"
            rw [dS]
            refine i_case (fun c => ?_) (fun c => ?_)
            · walk_at "go"
              refine i_ixT (SqT.of (hS4 _ _ hs1')) atI1 ?_
              walk_at "go"
              refine ⟨B12, p1', ms1, rfl, hS4, hp1', by have := S1.len; omega, fun H5 g5 => ?_⟩
              have hp := comP_pos ms1
              refine i_rI (by omega) ?_
              walk_at "go"
              refine hR _ _ ⟨?_, B12, g5.bh, hA4.mono g5 (fun z => nomatch z), sp1⟩
              rw [dI, c, Bool.true_and, show (9000 + (n : Int) - 1) = ((9000 + n - 1 : Nat) : Int) by omega, show (((9000 + n - 1 : Nat) : Int) % (comP ms1 : Int)) = (((9000 + n - 1) % comP ms1 : Nat) : Int) from (Int.natCast_emod _ _).symm]
              generalize (9000 + n - 1) % comP ms1 = kk
              by_cases h : kk = 0
              · subst h; simp
              · rw [decide_eq_false h, decide_eq_false (by omega)]
            · refine hR _ _ ⟨?_, B12, hS4, hA4, sp1⟩
              rw [c]
              rfl
          · rintro x H5 ⟨rfl, B5, hS5, hA5, sp5⟩
            walk_at "go"
            refine ⟨B5, _, w1, ms1, rfl, hS5, sp5, S1, fun B6 H6 x6 nd6 f6 g6 L6 M6 => ?_⟩
            have hA6 := hA5.mono g6 (fun z => nomatch z)
            have sp6 := sp5.mono g6.bb
            walk_at "go"
            refine ⟨B6, x6, 9000 + n, w1, nd6, f6, by rw [show ((9000 + n : Nat) : Int) = 9000 + (n : Int) by omega]; rfl, by omega, g6.bh, L6, S1.word, fun z => more_pos S1 M6 z, ?_⟩
            have hfar := far_eq S1 M6 (show 9000 ≤ 9000 + n by omega)
            generalize holdsB w1 f6 (9000 + n) = hb at hfar ⊢
            generalize (decide (w1 = "more") && decide ((9000 + n - 1) % comP ms1 = 0)) = wh at hfar ⊢
            subst hfar
            walk_at "go"
            cases wh with
            | true =>
              walk_at "go"
              refine ⟨_, _, rfl, ?_⟩
              walk_at "go"
              exact hr'' _ _ ⟨B6, _, _, _, rfl, g6.bh, hA6, sp6⟩
            | false =>
              obtain ⟨s6, p6, e6', hs6, hp6⟩ := sp6
              cases e6'
              walk_at "go"
              refine i_ixT (SqT.of (g6.bh _ _ hs6)) atI0 ?_
              walk_at "go"
              rw [dS]
              refine ⟨_, _, rfl, ?_⟩
              rw [show ((false || decide (w1 = "free")) == decide (w1 = "free")) = true by simp]
              walk_at "go"
              exact hr'' _ _ ⟨B6, _, _, _, rfl, g6.bh, hA6, s1, p6, rfl, hs6, hp6⟩
        · exact i_next (hr'' _ _ ⟨B12, _, none, none, rfl, g3.bh, hA3, sp1⟩)
    · walk_at "go"
      refine ⟨B2, a, 3, rfl, by decide, by decide, hS2, hA2, fun H3 d g3 hA3 _ _ => ?_⟩
      have hS3 := g3.bh
      have fin : ∀ H', Same B2 H' → HandAt B2 H' a → ∃ B' v2' w2' ms2', (([some (V.ref sc), some (.ref a), some v1, some v2, none, none, none, none, none, none] : L2.St) = [some (.ref sc), some (.ref a), some v1, some v2', none, none, none, none, none, none]) ∧ Same B' H' ∧ HandAt B' H' a ∧ SpecAt B' v1 w1 ms1 ∧ SpecAt B' v2' w2' ms2' ∧ LotS w2' ms2' := fun H' hs ha => ⟨B2, v2, w2, ms2, rfl, hs, ha, sp1, sp2, S2⟩
      walk_at "go"
      refine i_case (fun c => ?_) (fun c => ?_)
      · have sp1' := sp1
        obtain ⟨s1, p1, rfl, hs1, hp1⟩ := sp1'
        walk_at "go"
        refine i_ixT (SqT.of (hS3 _ _ hs1)) atI0 ?_
        walk_at "go"
        rw [dS]
        refine i_case (fun c => ?_) (fun c => ?_)
        · have hm : w1 = "more" := of_decide_eq_true c
          walk_at "go"
          refine i_ixT (SqT.of (hS3 _ _ hs1)) atI1 ?_
          walk_at "go"
          refine ⟨B2, a, p1, _, rfl, hS3, hA3, hp1, by have := S1.len; simp; omega, fun B4 H4 q us g4 hA4 hperm hq => ?_⟩
          obtain ⟨ms', rfl, hpm⟩ := perm_nV hperm
          replace sp1 := sp1.mono g4.bb
          walk_at "go"
          refine i_tupL (SqL.of (g4.bh _ _ hq)) fun q5 hq5 => ?_
          obtain ⟨g5, e5⟩ := al0 g4.bh hq5 (.tup (ms'.map nV))
          have hA5 := hA4.mono g5 (fun z => nomatch z)
          replace sp1 := sp1.mono g5.bb
          walk_at "go"
          refine ⟨sz5 (by simp), fun q6 hq6 => ?_⟩
          obtain ⟨g6, e6⟩ := al0 g5.bh hq6 (.tup [.str "more", .ref q5, .non])
          have hA6 := hA5.mono g6 (fun z => nomatch z)
          replace sp1 := sp1.mono g6.bb
          refine i_name (hr' _ _ ⟨_, _, "more", ms', rfl, g6.bh, hA6, sp1, ⟨q6, q5, rfl, e6, g6.bb _ _ e5⟩, lotS_perm hpm (hm ▸ S1)⟩)
        · exact i_next (hr' _ _ (fin _ hS3 hA3))
      · exact i_next (hr' _ _ (fin _ hS3 hA3))
end

end K01
set_option maxRecDepth 100000
set_option maxHeartbeats 2000000
namespace K01
open PySem PySem.Spec PyProof.Rows L2 Us
section
variable {P : Program} {w : World} {K : PySem.W.Frag} {mg : Str → Option Value} {base : Heap}
theorem law_ok (hP : P = R.prog) (T : Txt K mg) {f : Addr} {fd : FuncData} (F : FunD K "law" "law" (defArgs s_law) (defBody s_law) (defScope s_law) [] [] f fd) : FnOk P w K mg base CX0 9 f fd p_law (spLaw K) := by
  have Dis_integer := ok_is_integer (P := P) (w := w) (base := base) T
  have Dis_sum := ok_is_sum (P := P) (w := w) (base := base) T
  have Dleasts := ok_leasts_of (P := P) (w := w) (base := base) T
  have Dneeded := ok_needed T Dis_sum Dleasts
  have Dare := ok_are T Dis_integer
  obtain ⟨fk, Fk⟩ := T.d_Lot_keep
  obtain ⟨fi, Fi⟩ := T.d_Lot__init
  obtain ⟨fq, Fq⟩ := T.d_Lot__eq
  have Gkeep := ok_keep T Dneeded Dleasts Fk
  have bkeep : L2.Binds K fk p_Lot_keep [] := Fk.bindsN fun _ _ _ _ _ _ us hl => match us, hl with | [_, _, _], _ => rfl
  have GLot := ok_init T Dare Gkeep bkeep hP Fi
  have bLot : L2.Binds K fi p_Lot__init [] := Fi.bindsN fun _ _ _ _ _ _ us hl => match us, hl with | [_, _, _], _ => rfl
  have Geq := ok_eq (P := P) (w := w) (base := base) T Fq
  have beq : L2.Binds K fq p_Lot__eq [] := Fq.bindsN fun _ _ _ _ _ _ us hl => match us, hl with | [_, _], _ => rfl
  have Dholds_there := ok_holds_there T Dis_sum (ok_holds_raw_no T)
  have Dholds := ok_holds T Dis_integer Dholds_there
  have Dmissing := ok_missing T Dholds_there
  have Ddraw := ok_draw (P := P) (w := w) (base := base) T
  have Dsome := ok_some T Ddraw
  have Dsums := ok_sums (P := P) (w := w) (base := base) T
  have Dtold := ok_told T Dsums
  have Dlot := ok_lot T GLot bLot
  have Dcommon := ok_common (P := P) (w := w) (base := base) T
  have Ddue := ok_due_missing T Dcommon Dtold
  have Dis := ok_is (P := P) (w := w) (base := base) T 3
  have Dflag := ok_flag (P := P) (w := w) (base := base) T
  have Dright := ok_right T Dlot Dtold (ok_leastM T) Dis Dflag Dholds Dmissing Ddue
  exact ok_law T (ok_hand T) (ok_spec T Dsome Ddraw) Ddraw (ok_shuf T Ddraw) Dright Dtold Dflag Dlot Dcommon Dholds (ok_bent T Ddraw Dsome (ok_deep T)) Dis (ok_told_part T hP GLot bLot) (ok_due_part T) Geq beq F
end
theorem facts {P : Program} {w : World} {K : PySem.W.Frag} {h : Heap} {mg : Str → Option Value} {f : Addr} (hP : P = R.prog) (X : K.In h) (G : h.Ns mainGlobals mg) (hfa : mg ("law" : Str) = some (.ref f)) (c : He.SaysD fa fn K) (ce : ex K = true) (cs : Us.SaysS ss K) :
    ∃ fd : FuncData, (∀ (s : Shared) (v : Value), BindsTo s fd ⟨[v], []⟩ [("_law_script", v)]) ∧ ∀ base : Heap, K.In base → base.Ns mainGlobals mg → FnOk P w K mg base CX0 9 f fd ["_law_script"] (spLaw K) := by
  have T := txt_mk X G c ce cs
  obtain ⟨f', fd, F, hm⟩ := T.d_law.ex
  have e := hfa.symm.trans hm
  cases e
  refine ⟨fd, fun s v => ?_, fun base _ _ => ?_⟩
  · have b := FunD.bindsA (ps := ["_law_script"]) F fun _ _ _ _ _ _ us hl => match us, hl with | [_], _ => rfl
    exact b s [v] rfl
  · exact law_ok hP T F

end K01

open PySem PySem.W PySem.Calls PyProof.Rows in
theorem PySem.Challenge.cw_usecounts_k01_whole_lots_by_own_listing_holds : PySem.Challenge.rw_usecounts_k01_whole_lots_by_own_listing.Holds := by
  w_on; o_law
  refine HandSHeadRun.head_any (r := OpenLaw.row PySem.Challenge.rw_usecounts_k01_whole_lots_by_own_listing) (q := view (OpenLaw.row PySem.Challenge.rw_usecounts_k01_whole_lots_by_own_listing).prog [46]) (H := K01.hk) (ob := K01.ob) (M := 4000) (loose := K01.loose) (d := HandSHeadRun.topDef (OpenLaw.row PySem.Challenge.rw_usecounts_k01_whole_lots_by_own_listing).prog 46) (kwd := []) K01.ob_eq
    (by kernel_rfl) (fun s => by kernel_rfl) K01.run (by kernel_rfl) (by kernel_rfl) (by kernel_rfl) (by rfl) (by first | assumption | decide +kernel) (by decide +kernel) ⟨rfl, rfl, rfl, rfl, rfl, by decide +kernel⟩ ?hw ?hc
  case hw => w_witness2
  case hc =>
    refine L2.walk_ofE (l := PySem.Challenge.rw_usecounts_k01_whole_lots_by_own_listing) (n := 63) (k := 9) (x := "_law_script") (CX := L2.CX0) rfl (by decide) (by kernel_rfl) ⟨rfl, by decide, by decide⟩ ?F (fun _ _ _ _ z => z)
    intro w mg fa h Y G hmg0
    obtain ⟨K, KX, c, ce, cs⟩ := Y
    have hmg : mg ("law" : PySem.Str) = some (.ref fa) := by
      have e : (HandSHeadRun.topDef (OpenLaw.row PySem.Challenge.rw_usecounts_k01_whole_lots_by_own_listing).prog 46).name = ("law" : PySem.Str) := by kernel_rfl
      rw [← e]
      exact hmg0
    obtain ⟨fd, hb, hF⟩ := K01.facts (P := (PySem.Challenge.rw_usecounts_k01_whole_lots_by_own_listing).prog) (w := w) rfl KX G hmg c ce cs
    exact ⟨K, fd, K01.spLaw K, KX, hb, fun H a ns hl _ hS => ⟨a, ns, rfl, hS, hl, fun _ => rfl⟩, hF⟩
#print axioms PySem.Challenge.cw_usecounts_k01_whole_lots_by_own_listing_holds
