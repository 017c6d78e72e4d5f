import PyProof.Rows.All
import HandS.HeadHook1
import HandS.HeadHook2
import PySem.Challenge.RW_heldbest_k51_choosing
import HandS.Words
import HandS.WordsExc
import HandS.MakeKwOnly
import Wide.All
import OpenK.AllK
import Wide.FinOn
import KE.KStateDown
import Lean
import HandS.Ends
import HandS.More
import HandS.Head0
import HandS.Head1
import HandS.Head2
import HandS.HeadEnd
import HandS.Base
import HandS.Call
import HandS.List
import HandS.Comp
import HandS.Exc
import HandS.ExcOwn
import HandS.CallSlots
import HandS.Defaults
import HandS.TupLe
import HandS.IsInst
import HandS.Text
import HandS.Iter
import HandS.RevRange
import HandS.NoneIn
import HandS.SetFor
import HandS.Conv
import HandS.ExcInit
import HandS.ExcField
import HandS.ExcIs
import HandS.HotCalls
import KE.KExcIs
import HandS.Property
import KE.GoesEnum
import KE.GoesEnumKw
import HandS.Strs
import HandS.TupAny
import HandS.Rev
import HandS.Style
import HandS.WideBits
import KE.GoesMore
import KE.DatumOrd
set_option Elab.async false
set_option linter.all false
namespace FL
end FL
set_option maxRecDepth 100000
set_option maxHeartbeats 2000000
namespace HX
open PySem PySem.Spec PyProof.Rows L2
/-! ### facts of an own error's class -/
def clsB (C : Addr) (r : Option Obj) : Bool := match r with
  | some ⟨.type tn, _, .cls z, vs⟩ => decide (tn = "type") && (match z.mro, vs.toList with
    | .ref D :: us, [_, _, _, _, some (.builtin nw), _] => decide (D = C) && (decide (nw = "ValueError.__new__") && (!z.hasDel && (z.hasDict && PySem.HandSPX.refsVE us)))
    | _, _ => false)
  | _ => false
theorem clsB_ok {C : Addr} {r : Option Obj} (h : clsB C r = true) : ∃ nm q N bs bm sn sub ab col dd k0 k1 k2 k3 k5, r = some (excClassObj nm q C N bs bm true sn sub ab col dd k0 k1 k2 k3 k5 "ValueError.__new__") ∧ PySem.HandSPX.refsVE bm = true := by
  unfold clsB at h
  split at h
  · rename_i tn dd z vs
    have g0 := of_decide_eq_true (Bool.and_eq_true_iff.mp h).1
    have g := (Bool.and_eq_true_iff.mp h).2
    clear h
    subst g0
    split at g
    · rename_i D us k0 k1 k2 k3 nw k5 hm hv
      have e1 := of_decide_eq_true (Bool.and_eq_true_iff.mp g).1
      have g := (Bool.and_eq_true_iff.mp g).2
      have e2 := of_decide_eq_true (Bool.and_eq_true_iff.mp g).1
      obtain ⟨h3, h⟩ := Bool.and_eq_true_iff.mp (Bool.and_eq_true_iff.mp g).2
      obtain ⟨h4, h5⟩ := Bool.and_eq_true_iff.mp h
      subst e1 e2
      obtain ⟨nm, bs, mro, ns, qn, hd, sn, sb, ab, col, del⟩ := z
      have h3 : del = false := by simpa using h3
      have h4 : hd = true := h4
      have hm : mro = .ref D :: us := hm
      subst h3 h4 hm
      obtain ⟨l⟩ := vs
      have hv : l = [k0, k1, k2, k3, some (.builtin "ValueError.__new__"), k5] := hv
      subst hv
      exact ⟨nm, qn, ns, bs, us, sn, sb, ab, col, dd, k0, k1, k2, k3, k5, rfl, h5⟩
    · cases g
  · cases h
def oexB (K : PySem.W.Frag) (C : Addr) : Bool := clsB C (K.lookup C) && (decide (PySem.W.findIn K (.ref C) "__setattr__" = some (some (.builtin "object.__setattr__"))) && (decide (PySem.W.subIn K (.ref C) (.type "BaseException") = some true) && (decide (PySem.W.typeIn K (.ref C) = some (.type "type")) && PySem.W.keepIn K (.ref C))))
theorem oexB_ok {K : PySem.W.Frag} {C : Addr} (h : oexB K C = true) : OexC K C := by
  obtain ⟨h1, h⟩ := Bool.and_eq_true_iff.mp h
  obtain ⟨h2, h⟩ := Bool.and_eq_true_iff.mp h
  obtain ⟨h3, h⟩ := Bool.and_eq_true_iff.mp h
  obtain ⟨h4, h5⟩ := Bool.and_eq_true_iff.mp h
  exact ⟨clsB_ok h1, of_decide_eq_true h2, of_decide_eq_true h3, of_decide_eq_true h4, h5⟩
def excB (K : PySem.W.Frag) (C : Addr) : Bool := decide (PySem.W.findIn K (.ref C) "__getattribute__" = some (some (.builtin "BaseException.__getattribute__"))) && (decide (PySem.W.findIn K (.ref C) "__getattr__" = some none) && (decide (PySem.W.subIn K (.ref C) (.type "BaseException") = some true) && (PySem.W.hasDictIn K C && (decide (PySem.W.findIn K (.ref C) "__class__" = some (some (.builtin "object.__class__"))) &&
  (decide (PySem.W.specialIn K (.builtin "object.__class__") "__get__" = some (some (.builtin "getset_descriptor.__get__"))) && (decide (PySem.W.takesIn K (.builtin "object.__class__") = some true) && decide (PySem.W.mroIn K C (.type "object") = some true)))))))
theorem excB_ok {K : PySem.W.Frag} {C : Addr} (h : excB K C = true) : L2.ExcC K C := by
  obtain ⟨h1, h⟩ := Bool.and_eq_true_iff.mp h
  obtain ⟨h2, h⟩ := Bool.and_eq_true_iff.mp h
  obtain ⟨h3, h⟩ := Bool.and_eq_true_iff.mp h
  obtain ⟨h4, h⟩ := Bool.and_eq_true_iff.mp h
  obtain ⟨h5, h⟩ := Bool.and_eq_true_iff.mp h
  obtain ⟨h6, h⟩ := Bool.and_eq_true_iff.mp h
  obtain ⟨h7, h8⟩ := Bool.and_eq_true_iff.mp h
  exact ⟨of_decide_eq_true h1, of_decide_eq_true h2, of_decide_eq_true h3, h4, of_decide_eq_true h5, of_decide_eq_true h6, of_decide_eq_true h7, of_decide_eq_true h8⟩
/-! ### the Hook: defs, facts, own facts -/
section
variable (n : Nat) (fx : PySem.W.Frag → List Bool) (fa : List He.Fa) (fn : List He.DefD)
def obsX (K : PySem.W.Frag) : He.AlD := ((He.obsD fa fn K).1 && (fx K).all id, (He.obsD fa fn K).2)
def SaysX (K : PySem.W.Frag) : Prop := obsX fx fa fn K = He.valD fn
def obsXG (g : Addr → Option Obj) : He.AlD := obsX fx fa fn (He.frG g (He.asD g n))
def hookX : PySem.W.Hook where
  α := He.AlD
  obs := fun t => obsXG n fx fa fn t.heap.get?
  val := fun _ => He.valD fn
  says := fun _ hp => ∃ F : PySem.W.Frag, F.In hp ∧ SaysX fx fa fn F
  of := fun _ _ e => ⟨_, He.frG_in, e⟩
  keeps := fun _ _ _ ⟨F, hF, says⟩ old => ⟨F, PySem.W.Frag.In.keeps hF old, says⟩
variable {n fx fa fn} {K : PySem.W.Frag}
theorem SaysX.d (y : SaysX fx fa fn K) : He.SaysD fa fn K := by
  have y : (((He.obsD fa fn K).1 && (fx K).all id, (He.obsD fa fn K).2) : He.AlD) = (true, fn.map He.DefD.val) := y
  have h1 := (Bool.and_eq_true_iff.mp (congrArg (fun z : He.AlD => z.1) y)).1
  have h2 := congrArg (fun z : He.AlD => z.2) y
  exact Prod.ext h1 h2
theorem SaysX.x (y : SaysX fx fa fn K) (i : Nat) {b : Bool} (h : (fx K)[i]? = some b) : b = true := by
  have y : (((He.obsD fa fn K).1 && (fx K).all id, (He.obsD fa fn K).2) : He.AlD) = (true, fn.map He.DefD.val) := y
  have h1 := (Bool.and_eq_true_iff.mp (congrArg (fun z : He.AlD => z.1) y)).2
  exact List.all_eq_true.mp h1 b (List.mem_of_getElem? h)
end
end HX
set_option maxRecDepth 100000
set_option maxHeartbeats 2000000
namespace HX
open PySem PySem.Spec PyProof.Rows L2
/-! ### the getter of a property -/
def prObj (K : PySem.W.Frag) (C : Addr) (x : Str) : Addr := match PySem.W.findIn K (.ref C) x with
  | some (some (.ref p)) => p
  | _ => 0
def prGet (K : PySem.W.Frag) (C : Addr) (x : Str) : Addr := match PySem.W.recIn K (prObj K C x) "property" with
  | some (.ref g :: _) => g
  | _ => 0
def propB (K : PySem.W.Frag) (C : Addr) (x : Str) : Bool := decide (PySem.W.findIn K (.ref C) x = some (some (.ref (prObj K C x)))) && (decide (PySem.W.specialIn K (.ref (prObj K C x)) "__get__" = some (some (.builtin "property.__get__"))) && (decide (PySem.W.takesIn K (.ref (prObj K C x)) = some true) &&
  (match PySem.W.recIn K (prObj K C x) "property" with
  | some (.ref g :: _) => true
  | _ => false)))
/-! ### a def at an address of one's own -/
structure DefA where
  adr : PySem.W.Frag → Addr
  name : Str
  qual : Str
  params : Arguments
  body : List Stmt
  scope : Scope
def fnA (r : Option Obj) : He.FnW := match r with
  | some ⟨_, _, .func z, _⟩ => some (z.name, z.qualname, z.params, z.body, z.scope, z.globals, z.closure, z.builtins)
  | _ => none
def DefA.val (d : DefA) : He.FnW := some (d.name, d.qual, d.params, FuncBody.stmts d.body, d.scope, mainGlobals, [], builtinsNs)
def okA (K : PySem.W.Frag) (q : Str) (r : Option Obj) : Bool := match r with
  | some ⟨_, _, .func z, _⟩ => PySem.W.codeIn K z.code q && (He.dflB K z.defaults [] && He.kwdB K z.kwdefaults [])
  | _ => false
def DefA.ok (K : PySem.W.Frag) (d : DefA) : Bool := PySem.W.keepIn K (.ref (d.adr K)) && okA K d.qual (K.lookup (d.adr K))
theorem DefA.funD {K : PySem.W.Frag} {d : DefA} (e : fnA (K.lookup (d.adr K)) = d.val) (c : d.ok K = true) : ∃ fd, FunD K d.name d.qual d.params d.body d.scope [] [] (d.adr K) fd := by
  obtain ⟨kp, c⟩ := Bool.and_eq_true_iff.mp c
  cases q : K.lookup (d.adr K) with
  | none => rw [q] at c; cases c
  | some ob =>
    obtain ⟨ocl, odi, oda, osl⟩ := ob
    rw [q] at c e
    cases oda with
    | func z =>
      obtain ⟨m1, m2, m3, m4, m5, m6, m7, m8, m9, m10, m11, m12, m13, m14, m15⟩ := z
      have e2 : (some (m1, m2, m3, m4, m5, m6, m7, m15) : He.FnW) = some (d.name, d.qual, d.params, FuncBody.stmts d.body, d.scope, mainGlobals, [], builtinsNs) := e
      simp only [Option.some.injEq, Prod.mk.injEq] at e2
      obtain ⟨rfl, rfl, rfl, rfl, rfl, rfl, rfl, rfl⟩ := e2
      obtain ⟨c1, c⟩ := Bool.and_eq_true_iff.mp (show (PySem.W.codeIn K m13 d.qual && (He.dflB K m8 [] && He.kwdB K m9 [])) = true from c)
      obtain ⟨c2, c3⟩ := Bool.and_eq_true_iff.mp c
      exact ⟨_, ⟨ocl, odi, m8, m9, m10, m11, m12, m13, m14, osl, rfl, q, c1, He.dflB_ok c2, He.kwdB_ok c3⟩, kp⟩
    | _ => cases c
/-! ### the Hook with them -/
section
variable (n : Nat) (fx : PySem.W.Frag → List Bool) (fa : List He.Fa) (fn : List He.DefD) (ga : List DefA)
def obsY (K : PySem.W.Frag) : He.AlD := ((He.obsD fa fn K).1 && ((fx K).all id && ga.all fun d => d.ok K), (He.obsD fa fn K).2 ++ ga.map fun d => fnA (K.lookup (d.adr K)))
def valY : He.AlD := (true, fn.map He.DefD.val ++ ga.map DefA.val)
def SaysY (K : PySem.W.Frag) : Prop := obsY fx fa fn ga K = valY fn ga
def obsYG (g : Addr → Option Obj) : He.AlD := obsY fx fa fn ga (He.frG g (He.asD g n))
def hookY : PySem.W.Hook where
  α := He.AlD
  obs := fun t => obsYG n fx fa fn ga t.heap.get?
  val := fun _ => valY fn ga
  says := fun _ hp => ∃ F : PySem.W.Frag, F.In hp ∧ SaysY fx fa fn ga F
  of := fun _ _ e => ⟨_, He.frG_in, e⟩
  keeps := fun _ _ _ ⟨F, hF, says⟩ old => ⟨F, PySem.W.Frag.In.keeps hF old, says⟩
theorem obsYG_eq {n : Nat} {fx : PySem.W.Frag → List Bool} {fa : List He.Fa} {fn : List He.DefD} {ga : List DefA} {g : Addr → Option Obj} {t : Shared} (h : ∀ a, g a = t.heap.get? a) : obsYG n fx fa fn ga g = (hookY n fx fa fn ga).obs t := by
  have : g = t.heap.get? := funext h
  subst this
  rfl
variable {n fx fa fn ga} {K : PySem.W.Frag}
theorem SaysY.d (y : SaysY fx fa fn ga K) : He.SaysD fa fn K := by
  have y : (((He.obsD fa fn K).1 && ((fx K).all id && ga.all fun d => d.ok K), (He.obsD fa fn K).2 ++ ga.map fun d => fnA (K.lookup (d.adr K))) : He.AlD) = (true, fn.map He.DefD.val ++ ga.map DefA.val) := y
  have h1 := (Bool.and_eq_true_iff.mp (congrArg (fun z : He.AlD => z.1) y)).1
  have h2 : (He.obsD fa fn K).2 ++ (ga.map fun d => fnA (K.lookup (d.adr K))) = fn.map He.DefD.val ++ ga.map DefA.val := congrArg (fun z : He.AlD => z.2) y
  have h3 : (He.obsD fa fn K).2.length = (fn.map He.DefD.val).length := by
    show (fn.map _).length = _
    rw [List.length_map, List.length_map]
  exact Prod.ext h1 (List.append_inj h2 h3).1
theorem SaysY.x (y : SaysY fx fa fn ga K) (i : Nat) {b : Bool} (h : (fx K)[i]? = some b) : b = true := by
  have y : (((He.obsD fa fn K).1 && ((fx K).all id && ga.all fun d => d.ok K), (He.obsD fa fn K).2 ++ ga.map fun d => fnA (K.lookup (d.adr K))) : He.AlD) = (true, fn.map He.DefD.val ++ ga.map DefA.val) := y
  have h1 := (Bool.and_eq_true_iff.mp (Bool.and_eq_true_iff.mp (congrArg (fun z : He.AlD => z.1) y)).2).1
  exact List.all_eq_true.mp h1 b (List.mem_of_getElem? h)
theorem SaysY.a (y : SaysY fx fa fn ga K) (i : Nat) {d : DefA} (h : ga[i]? = some d) : ∃ fd, FunD K d.name d.qual d.params d.body d.scope [] [] (d.adr K) fd := by
  have y : (((He.obsD fa fn K).1 && ((fx K).all id && ga.all fun d => d.ok K), (He.obsD fa fn K).2 ++ ga.map fun d => fnA (K.lookup (d.adr K))) : He.AlD) = (true, fn.map He.DefD.val ++ ga.map DefA.val) := y
  have h1 := (Bool.and_eq_true_iff.mp (Bool.and_eq_true_iff.mp (congrArg (fun z : He.AlD => z.1) y)).2).2
  have h2 : (He.obsD fa fn K).2 ++ (ga.map fun d => fnA (K.lookup (d.adr K))) = fn.map He.DefD.val ++ ga.map DefA.val := congrArg (fun z : He.AlD => z.2) y
  have h3 : (He.obsD fa fn K).2.length = (fn.map He.DefD.val).length := by
    show (fn.map _).length = _
    rw [List.length_map, List.length_map]
  have h4 := (List.append_inj h2 h3).2
  have h5 : (ga.map fun d => fnA (K.lookup (d.adr K)))[i]? = (ga.map DefA.val)[i]? := by rw [h4]
  rw [List.getElem?_map, List.getElem?_map, h] at h5
  exact DefA.funD (Option.some.inj h5) (List.all_eq_true.mp h1 d (List.mem_of_getElem? h))
end
end HX
set_option maxRecDepth 100000
set_option maxHeartbeats 2000000
namespace K51
open PySem PySem.Spec PyProof.Rows L2 FL
def clsAt (s : Stmt) (j : Nat) : Stmt := (match s with
  | .ClassDef _ _ _ body _ _ _ _ _ _ _ => body.getD j (.Pass ⟨0, 0, 0, 0⟩)
  | s => s)
def top (i : Nat) : Stmt := PySem.Challenge.pw_heldbest_k51_choosing.main.body.getD i (.Pass ⟨0, 0, 0, 0⟩)
def si_OutOfRange : Stmt := (match top 2 with
  | .ClassDef _ _ _ body _ _ _ _ _ _ _ => body.getD 0 (.Pass ⟨0, 0, 0, 0⟩)
  | s => s)
abbrev s_l_draw : Stmt := top 17
abbrev s_l_measure : Stmt := top 20
abbrev s_l_cost : Stmt := top 21
abbrev s_l_case : Stmt := top 22
abbrev s_l_bent : Stmt := top 28
abbrev s_l_wrong : Stmt := top 27
abbrev s_l_best : Stmt := top 25
abbrev s_l_same : Stmt := top 18
abbrev s_within : Stmt := top 10
abbrev s_row_scale_look : Stmt := top 13
abbrev s_left_at : Stmt := top 14
abbrev s_choose : Stmt := top 15
abbrev s_l_chosen : Stmt := top 24
abbrev s_l_left : Stmt := top 23
abbrev s_l_answers_hold : Stmt := top 26
abbrev s_l_refused : Stmt := top 19
abbrev s_l_odd_holds : Stmt := top 29
abbrev s_l_refusals_hold : Stmt := top 30
abbrev s_law : Stmt := top 31
end K51
set_option maxRecDepth 100000
set_option maxHeartbeats 0
namespace K51
open PySem PySem.Spec PyProof.Rows L2 FL
def dsD : List He.DefD := [⟨("_law_draw", none), "_law_draw", "_law_draw", defArgs s_l_draw, defBody s_l_draw, defScope s_l_draw, [], []⟩,
  ⟨("_law_measure", none), "_law_measure", "_law_measure", defArgs s_l_measure, defBody s_l_measure, defScope s_l_measure, [], []⟩,
  ⟨("_law_cost", none), "_law_cost", "_law_cost", defArgs s_l_cost, defBody s_l_cost, defScope s_l_cost, [], []⟩,
  ⟨("_law_case", none), "_law_case", "_law_case", defArgs s_l_case, defBody s_l_case, defScope s_l_case, [], []⟩,
  ⟨("_law_bent", none), "_law_bent", "_law_bent", defArgs s_l_bent, defBody s_l_bent, defScope s_l_bent, [], []⟩,
  ⟨("_law_wrong", none), "_law_wrong", "_law_wrong", defArgs s_l_wrong, defBody s_l_wrong, defScope s_l_wrong, [], []⟩,
  ⟨("_law_best", none), "_law_best", "_law_best", defArgs s_l_best, defBody s_l_best, defScope s_l_best, [], []⟩,
  ⟨("_law_same", none), "_law_same", "_law_same", defArgs s_l_same, defBody s_l_same, defScope s_l_same, [], []⟩,
  ⟨("within", none), "within", "within", defArgs s_within, defBody s_within, defScope s_within, [], []⟩,
  ⟨("row_scale_look", none), "row_scale_look", "row_scale_look", defArgs s_row_scale_look, defBody s_row_scale_look, defScope s_row_scale_look, [], []⟩,
  ⟨("left_at", none), "left_at", "left_at", defArgs s_left_at, defBody s_left_at, defScope s_left_at, [], []⟩,
  ⟨("choose", none), "choose", "choose", defArgs s_choose, defBody s_choose, defScope s_choose, [], []⟩,
  ⟨("_law_chosen", none), "_law_chosen", "_law_chosen", defArgs s_l_chosen, defBody s_l_chosen, defScope s_l_chosen, [], []⟩,
  ⟨("_law_left", none), "_law_left", "_law_left", defArgs s_l_left, defBody s_l_left, defScope s_l_left, [], []⟩,
  ⟨("_law_answers_hold", none), "_law_answers_hold", "_law_answers_hold", defArgs s_l_answers_hold, defBody s_l_answers_hold, defScope s_l_answers_hold, [], []⟩,
  ⟨("_law_refused", none), "_law_refused", "_law_refused", defArgs s_l_refused, defBody s_l_refused, defScope s_l_refused, [], []⟩,
  ⟨("_law_odd_holds", none), "_law_odd_holds", "_law_odd_holds", defArgs s_l_odd_holds, defBody s_l_odd_holds, defScope s_l_odd_holds, [], []⟩,
  ⟨("_law_refusals_hold", none), "_law_refusals_hold", "_law_refusals_hold", defArgs s_l_refusals_hold, defBody s_l_refusals_hold, defScope s_l_refusals_hold, [], []⟩,
  ⟨("law", none), "law", "law", defArgs s_law, defBody s_law, defScope s_law, [], []⟩,
  ⟨("OutOfRange", some "__init__"), "__init__", "OutOfRange.__init__", defArgs si_OutOfRange, defBody si_OutOfRange, defScope si_OutOfRange, [], []⟩]
def dsA : List HX.DefA := []
def dsF : List He.Fa := [.glo "_law_draw", .glo "_law_measure", .glo "_law_cost", .glo "_law_case", .glo "_law_bent", .glo "_law_wrong", .glo "_law_best", .glo "_law_same", .glo "within", .glo "row_scale_look", .glo "left_at", .glo "choose", .glo "_law_chosen", .glo "_law_left", .glo "_law_answers_hold", .glo "_law_refused", .glo "_law_odd_holds", .glo "_law_refusals_hold", .glo "law", .free "ValueError", .free "abs", .free "bool", .free "int", .free "isinstance", .free "len", .free "list", .free "max", .free "range", .free "reversed", .free "str", .free "tuple", .free "zip", .int "MOST_DESKS" 6, .int "MOST_WORTH" 99, .int "MOST_PRICE" 9999, .int "MOST_SCALE" 100, .glo "OutOfRange", .glo "HeldError", .glo "Unread", .glo "BadWord", .glo "NoLetter", .exm "OutOfRange" "OutOfRange" true]
def bO (a b : Option (Option Value)) : Bool := decide (a = b)
def errB (K : PySem.W.Frag) (x : Str) : Bool := HX.oexB K (He.ga K x) && (bO (PySem.W.findIn K (.ref (He.ga K x)) "__init__") (some (some (.ref (He.fAd K (x, some "__init__"))))) && (decide (PySem.W.typeIn K (.ref (He.fAd K (x, some "__init__"))) = some (.type "function")) && (HX.excB K (He.ga K x) && ((PySem.W.clsIn K (He.ga K x)).isSome && xfB K (He.ga K x)))))
def dsX (K : PySem.W.Frag) : List Bool := [errB K "OutOfRange",
  bO (PySem.W.findIn K (.ref (He.ga K "OutOfRange")) "what") (some none),
  bO (PySem.W.findIn K (.ref (He.ga K "OutOfRange")) "value") (some none),
  decide (PySem.W.kitOne K (.ref (He.ga K "OutOfRange")) (.ref (He.ga K "BadWord")) = some false),
  decide (PySem.W.kitOne K (.ref (He.ga K "OutOfRange")) (.ref (He.ga K "HeldError")) = some true),
  decide (PySem.W.kitOne K (.ref (He.ga K "OutOfRange")) (.ref (He.ga K "NoLetter")) = some false),
  decide (PySem.W.kitOne K (.ref (He.ga K "OutOfRange")) (.ref (He.ga K "Unread")) = some false),
  decide (PySem.W.kitOne K (.ref (He.ga K "OutOfRange")) (.type "ValueError") = some true)]
def names : List PySem.Str := (["HeldError", "OutOfRange", "Unread", "BadWord", "NoLetter", "MOST_DESKS", "MOST_WORTH", "MOST_PRICE", "within", "MOST_SCALE", "row_scale_look", "left_at"] : List PySem.Str) ++ (["choose", "_law_draw", "_law_same", "_law_refused", "_law_measure", "_law_cost", "_law_case", "_law_left", "_law_chosen", "_law_best", "_law_answers_hold", "_law_wrong"] : List PySem.Str) ++ (["_law_bent", "_law_odd_holds", "_law_refusals_hold"] : List PySem.Str)
abbrev RwH : PySem.W.OpenRow := PySem.W.OpenLaw.row PySem.Challenge.rw_heldbest_k51_choosing
abbrev hk : PySem.W.Hook := HX.hookY 5 dsX dsF dsD dsA
def ob (s : PySem.W.SharedT) : He.AlD := HX.obsYG 5 dsX dsF dsD dsA (HandSHeadRun.getT s)
theorem ob_eq (s : PySem.W.SharedT) : ob s = hk.obs s.abs := HX.obsYG_eq (HandSHeadRun.getT_eq s)
theorem run (w : World) : HandSHeadRun.RunEq RwH (PySem.W.view RwH.prog [31]) hk ob 30000 names w := by
  intro os
  kernel_rfl
end K51
set_option maxRecDepth 100000
set_option maxHeartbeats 2000000
/-! FL: functional readings. A def's value as a plain function over data (D) and a store of mutable cells. -/
namespace FL
open PySem PySem.Spec PyProof.Rows L2
abbrev St := L2.St

/-- data -/
inductive D where
  | non | bl (b : Bool) | int (i : Int) | str (x : Str) | ty (n : String) | ref (a : Addr)
  | tup (ds : List D) | lst (ds : List D) | fls (ds : List D) | loc (n : Nat)
  | obj (C : Addr) (fs : List (Str × D)) | exn (C : Addr) (fs : List (Str × D))
  deriving Inhabited
/-- a mutable cell -/
inductive Cell where
  | lst (ds : List D) | ins (C : Addr) (fs : List (Str × D))
  deriving Inhabited
abbrev Sto := List Cell
abbrev Env := List (Option D)
/-- a view of the abstract heap: the cells' addresses, the hidden ones -/
structure Vw where
  ι : Nat → Addr
  Z : List Addr
  H : Hp
  S : Sto
def Vw.loc (w : Vw) (a : Addr) : Prop := ∃ m, m < w.S.length ∧ w.ι m = a
def Vw.mut (w : Vw) (a : Addr) : Prop := w.loc a ∨ a ∈ w.Z
/-- a tuple whose object is known to have no dict (its methods can be called) -/
def TupR (H : Hp) (a : Addr) (xs : List V) : Prop := ∃ o : Obj, H a = some (.frz o (.tup xs)) ∧ o.dict = none
def TupAt (K : PySem.W.Frag) (w : Vw) (a : Addr) (xs : List V) : Prop :=
  (TupR w.H a xs ∧ ¬ w.mut a) ∨
    ∃ (o : Obj) (its : Array Value) (n : Nat), K.lookup a = some o ∧ o.cls = .type "tuple" ∧ o.dict = none ∧ o.data = .seq its n ∧ its.size ≤ sizeLine ∧ Vals xs its.toList
def LstAt (K : PySem.W.Frag) (w : Vw) (a : Addr) (xs : List V) : Prop :=
  (Rd w.H a (.lst xs) ∧ ¬ w.mut a) ∨
    ∃ (o : Obj) (its : Array Value) (n : Nat), K.lookup a = some o ∧ o.cls = .type "list" ∧ o.dict = none ∧ o.data = .seq its n ∧ its.size ≤ sizeLine ∧ Vals xs its.toList
theorem TupAt.sq {K : PySem.W.Frag} {w : Vw} {a : Addr} {xs : List V} (h : TupAt K w a xs) : SqT K w.H a xs := h.elim (fun h => let ⟨o, q, _⟩ := h.1; .inl (.inr ⟨o, q⟩)) fun ⟨o, its, n, h1, h2, _, h3⟩ => .inr ⟨o, its, n, h1, h2, h3⟩
def LstV (w : Vw) (a : Addr) (xs : List V) : Prop := w.H a = some (.lst xs) ∧ ¬ w.mut a
theorem LstV.sq {K : PySem.W.Frag} {w : Vw} {a : Addr} {xs : List V} (h : LstV w a xs) : SqL K w.H a xs := SqL.of h.1
theorem LstAt.sq {K : PySem.W.Frag} {w : Vw} {a : Addr} {xs : List V} (h : LstAt K w a xs) : SqL K w.H a xs := h.elim (fun h => .inl h.1) .inr

mutual
inductive Rep (K : PySem.W.Frag) (pn : List (Addr × Obj)) (w : Vw) : V → D → Prop
  | non : Rep K pn w .non .non
  | bl (b : Bool) : Rep K pn w (.bl b) (.bl b)
  | int (i : Int) : Rep K pn w (.int i) (.int i)
  | str (x : Str) : Rep K pn w (.str x) (.str x)
  | ty (n : String) : Rep K pn w (.ty n) (.ty n)
  | ref (a : Addr) : Rep K pn w (.ref a) (.ref a)
  | tup {a : Addr} {xs : List V} {ds : List D} (h : TupAt K w a xs) (r : Reps K pn w xs ds) : Rep K pn w (.ref a) (.tup ds)
  | lst {a : Addr} {xs : List V} {ds : List D} (h : LstV w a xs) (r : Reps K pn w xs ds) : Rep K pn w (.ref a) (.lst ds)
  | fls {a : Addr} {xs : List V} {ds : List D} (h : LstAt K w a xs) (r : Reps K pn w xs ds) : Rep K pn w (.ref a) (.fls ds)
  | loc {m : Nat} (h : m < w.S.length) : Rep K pn w (.ref (w.ι m)) (.loc m)
  | obj {a C dx : Addr} {fs : List (Str × V)} {gs : List (Str × D)} (h : w.H a = some (.ins C dx fs)) (n : ¬ w.mut a) (r : RepF K pn w fs gs) : Rep K pn w (.ref a) (.obj C gs)
  | exn0 {a C : Addr} {oe : Obj} (h : (a, oe) ∈ pn) (hz : Zc (.ref C) none oe) (hf : ∃ vs, oe.data = .fields vs) : Rep K pn w (.ref a) (.exn C [])
  | exn {a C dd : Addr} {oe : Obj} {fs : List (Str × V)} {gs : List (Str × D)} (h : (a, oe) ∈ pn) (hz : Zc (.ref C) (some dd) oe) (hf : ∃ vs, oe.data = .fields vs) (hd : w.H dd = some (.xd fs)) (n : ¬ w.mut dd) (r : RepF K pn w fs gs) : Rep K pn w (.ref a) (.exn C gs)
inductive Reps (K : PySem.W.Frag) (pn : List (Addr × Obj)) (w : Vw) : List V → List D → Prop
  | nil : Reps K pn w [] []
  | cons {v : V} {d : D} {vs : List V} {ds : List D} (h : Rep K pn w v d) (t : Reps K pn w vs ds) : Reps K pn w (v :: vs) (d :: ds)
inductive RepF (K : PySem.W.Frag) (pn : List (Addr × Obj)) (w : Vw) : List (Str × V) → List (Str × D) → Prop
  | nil : RepF K pn w [] []
  | cons {f : Str} {v : V} {d : D} {vs : List (Str × V)} {ds : List (Str × D)} (h : Rep K pn w v d) (t : RepF K pn w vs ds) : RepF K pn w ((f, v) :: vs) ((f, d) :: ds)
end

/-- the later view of the same things -/
structure Ext (w w' : Vw) : Prop where
  len : w.S.length ≤ w'.S.length
  ι : ∀ m, m < w.S.length → w'.ι m = w.ι m
  new : ∀ m, w.S.length ≤ m → m < w'.S.length → w.H (w'.ι m) = none
  Z : (∀ z ∈ w.Z, z ∈ w'.Z) ∧ ∀ z ∈ w'.Z, z ∈ w.Z ∨ w.H z = none
  keep : ∀ a o, w.H a = some o → ¬ w.loc a → w'.H a = some o
  live : ∀ a o, w.H a = some o → ∃ o', w'.H a = some o'
theorem Ext.refl (w : Vw) : Ext w w := ⟨Nat.le_refl _, fun _ _ => rfl, fun m h1 h2 => absurd h2 (Nat.not_lt.mpr h1), ⟨fun _ h => h, fun _ h => .inl h⟩, fun _ _ h _ => h, fun _ o h => ⟨o, h⟩⟩
theorem Ext.loc {w w' : Vw} (e : Ext w w') {a : Addr} {o : HO} (h : w.H a = some o) (n : ¬ w.loc a) : ¬ w'.loc a := fun ⟨m, hm, e1⟩ => by
  by_cases hl : m < w.S.length
  · exact n ⟨m, hl, by rw [← e.ι m hl]; exact e1⟩
  · have := e.new m (Nat.not_lt.mp hl) hm
    rw [e1, h] at this
    cases this
theorem Ext.mut {w w' : Vw} (e : Ext w w') {a : Addr} {o : HO} (h : w.H a = some o) (n : ¬ w.mut a) : ¬ w'.mut a := fun q => by
  rcases q with q | q
  · exact e.loc h (fun z => n (.inl z)) q
  · rcases e.Z.2 _ q with q | q
    · exact n (.inr q)
    · rw [h] at q; cases q
theorem Ext.trans {a b c : Vw} (x : Ext a b) (y : Ext b c) : Ext a c where
  len := Nat.le_trans x.len y.len
  ι := fun m h => (y.ι m (Nat.lt_of_lt_of_le h x.len)).trans (x.ι m h)
  new := fun m h1 h2 => by
    by_cases hl : m < b.S.length
    · have := x.new m h1 hl
      rw [← y.ι m hl] at this
      exact this
    · have q := y.new m (Nat.not_lt.mp hl) h2
      cases e : a.H (c.ι m) with
      | none => rfl
      | some o =>
        obtain ⟨o', e'⟩ := x.live _ _ e
        rw [q] at e'
        cases e'
  Z := ⟨fun z h => y.Z.1 z (x.Z.1 z h), fun z h => by
    rcases y.Z.2 z h with h | h
    · exact x.Z.2 z h
    · refine .inr ?_
      cases e : a.H z with
      | none => rfl
      | some o =>
        obtain ⟨o', e'⟩ := x.live _ _ e
        rw [h] at e'
        cases e'⟩
  keep := fun p o h n => y.keep p o (x.keep p o h n) (x.loc h n)
  live := fun p o h => let ⟨o', h'⟩ := x.live p o h; y.live p o' h'
section
variable {K : PySem.W.Frag} {pn pn' : List (Addr × Obj)} {w w' : Vw}
theorem Ext.rd (e : Ext w w') {a : Addr} {u : HO} (h : Rd w.H a u ∧ ¬ w.mut a) : Rd w'.H a u ∧ ¬ w'.mut a := by
  obtain ⟨h, n⟩ := h
  rcases h with h | ⟨o, h⟩
  · exact ⟨.inl (e.keep _ _ h fun z => n (.inl z)), e.mut h n⟩
  · exact ⟨.inr ⟨o, e.keep _ _ h fun z => n (.inl z)⟩, e.mut h n⟩
theorem Ext.tr (e : Ext w w') {a : Addr} {xs : List V} (h : TupR w.H a xs ∧ ¬ w.mut a) : TupR w'.H a xs ∧ ¬ w'.mut a := by
  obtain ⟨⟨o, h, d⟩, n⟩ := h
  exact ⟨⟨o, e.keep _ _ h fun z => n (.inl z), d⟩, e.mut h n⟩
theorem Ext.tup (e : Ext w w') {a : Addr} {xs : List V} (h : TupAt K w a xs) : TupAt K w' a xs := h.imp e.tr id
theorem Ext.lstV (e : Ext w w') {a : Addr} {xs : List V} (h : LstV w a xs) : LstV w' a xs := ⟨e.keep _ _ h.1 fun z => h.2 (.inl z), e.mut h.1 h.2⟩
theorem Ext.lst (e : Ext w w') {a : Addr} {xs : List V} (h : LstAt K w a xs) : LstAt K w' a xs := h.imp e.rd id
mutual
theorem Rep.ext (e : Ext w w') (hp : ∀ p ∈ pn, p ∈ pn') : ∀ {v : V} {d : D}, Rep K pn w v d → Rep K pn' w' v d
  | _, _, .non => .non
  | _, _, .bl b => .bl b
  | _, _, .int i => .int i
  | _, _, .str x => .str x
  | _, _, .ty n => .ty n
  | _, _, .ref a => .ref a
  | _, _, .tup h r => .tup (e.tup h) (Reps.ext e hp r)
  | _, _, .lst h r => .lst (e.lstV h) (Reps.ext e hp r)
  | _, _, .fls h r => .fls (e.lst h) (Reps.ext e hp r)
  | _, _, .loc (m := m) h => by
    have q : w'.ι m = w.ι m := e.ι m h
    rw [← q]
    exact .loc (Nat.lt_of_lt_of_le h e.len)
  | _, _, .obj h n r => .obj (e.keep _ _ h fun z => n (.inl z)) (e.mut h n) (RepF.ext e hp r)
  | _, _, .exn0 h hz hf => .exn0 (hp _ h) hz hf
  | _, _, .exn h hz hf hd n r => .exn (hp _ h) hz hf (e.keep _ _ hd fun z => n (.inl z)) (e.mut hd n) (RepF.ext e hp r)
theorem Reps.ext (e : Ext w w') (hp : ∀ p ∈ pn, p ∈ pn') : ∀ {v : List V} {d : List D}, Reps K pn w v d → Reps K pn' w' v d
  | _, _, .nil => .nil
  | _, _, .cons h t => .cons (Rep.ext e hp h) (Reps.ext e hp t)
theorem RepF.ext (e : Ext w w') (hp : ∀ p ∈ pn, p ∈ pn') : ∀ {v : List (Str × V)} {d : List (Str × D)}, RepF K pn w v d → RepF K pn' w' v d
  | _, _, .nil => .nil
  | _, _, .cons h t => .cons (Rep.ext e hp h) (RepF.ext e hp t)
end

theorem Rep.to (r : Rep K pn w v d) (e : Ext w w') : Rep K pn w' v d := r.ext e fun _ h => h
theorem Reps.to {vs : List V} {ds : List D} (r : Reps K pn w vs ds) (e : Ext w w') : Reps K pn w' vs ds := r.ext e fun _ h => h
theorem RepF.to {vs : List (Str × V)} {ds : List (Str × D)} (r : RepF K pn w vs ds) (e : Ext w w') : RepF K pn w' vs ds := r.ext e fun _ h => h
theorem Reps.length : ∀ {vs : List V} {ds : List D}, Reps K pn w vs ds → vs.length = ds.length
  | _, _, .nil => rfl
  | _, _, .cons _ t => congrArg (· + 1) t.length
theorem Reps.get : ∀ {vs : List V} {ds : List D} {i : Nat} {d : D}, Reps K pn w vs ds → ds[i]? = some d → ∃ v, vs[i]? = some v ∧ Rep K pn w v d
  | _, _, _, _, .nil, e => by simp at e
  | _, _, 0, _, .cons h _, e => by simp at e; subst e; exact ⟨_, rfl, h⟩
  | _, _, i + 1, d, .cons _ t, e => by
    obtain ⟨v, h1, h2⟩ := t.get (i := i) (d := d) (by simpa using e)
    exact ⟨v, by simpa using h1, h2⟩
theorem Reps.getV : ∀ {vs : List V} {ds : List D} {i : Nat} {v : V}, Reps K pn w vs ds → vs[i]? = some v → ∃ d, ds[i]? = some d ∧ Rep K pn w v d
  | _, _, _, _, .nil, e => by simp at e
  | _, _, 0, _, .cons h _, e => by simp at e; subst e; exact ⟨_, rfl, h⟩
  | _, _, i + 1, v, .cons _ t, e => by
    obtain ⟨d, h1, h2⟩ := t.getV (i := i) (v := v) (by simpa using e)
    exact ⟨d, by simpa using h1, h2⟩
theorem Reps.append : ∀ {vs us : List V} {ds es : List D}, Reps K pn w vs ds → Reps K pn w us es → Reps K pn w (vs ++ us) (ds ++ es)
  | _, _, _, _, .nil, s => s
  | _, _, _, _, .cons h t, s => .cons h (t.append s)
theorem Reps.take : ∀ {vs : List V} {ds : List D} (n : Nat), Reps K pn w vs ds → Reps K pn w (vs.take n) (ds.take n)
  | _, _, 0, _ => .nil
  | _, _, _ + 1, .nil => .nil
  | _, _, n + 1, .cons h t => .cons h (t.take n)
theorem Reps.drop : ∀ {vs : List V} {ds : List D} (n : Nat), Reps K pn w vs ds → Reps K pn w (vs.drop n) (ds.drop n)
  | _, _, 0, r => r
  | _, _, _ + 1, .nil => .nil
  | _, _, n + 1, .cons _ t => t.drop n
theorem Reps.set {v : V} {d : D} (h : Rep K pn w v d) : ∀ {vs : List V} {ds : List D} (n : Nat), Reps K pn w vs ds → Reps K pn w (vs.set n v) (ds.set n d)
  | _, _, _, .nil => .nil
  | _, _, 0, .cons _ t => .cons h t
  | _, _, n + 1, .cons q t => .cons q (Reps.set h n t)
theorem Reps.ints : ∀ {vs : List V} {ns : List Int}, Reps K pn w vs (ns.map D.int) → vs = ns.map V.int
  | _, [], .nil => rfl
  | _, n :: ns, .cons h t => by cases h; rw [Reps.ints t]; rfl
theorem RepF.lookup : ∀ {fs : List (Str × V)} {gs : List (Str × D)} {f : Str} {d : D}, RepF K pn w fs gs → gs.lookup f = some d → ∃ v, fs.lookup f = some v ∧ Rep K pn w v d
  | _, _, _, _, .nil, e => by cases e
  | _, _, f, d, .cons (f := g) h t, e => by
    unfold List.lookup at e ⊢
    cases q : (f == g) with
    | true => rw [q] at e; cases e; exact ⟨_, rfl, h⟩
    | false => rw [q] at e; exact t.lookup e
theorem RepF.length : ∀ {fs : List (Str × V)} {gs : List (Str × D)}, RepF K pn w fs gs → fs.length = gs.length
  | _, _, .nil => rfl
  | _, _, .cons _ t => congrArg (· + 1) t.length
end
/-- what a cell holds -/
def CellOk (K : PySem.W.Frag) (pn : List (Addr × Obj)) (w : Vw) (a : Addr) : Cell → Prop
  | .lst ds => ∃ xs, w.H a = some (.lst xs) ∧ Reps K pn w xs ds
  | .ins C gs => ∃ dx fs, w.H a = some (.ins C dx fs) ∧ RepF K pn w fs gs
structure Vw.Ok (K : PySem.W.Frag) (w : Vw) : Prop where
  inj : ∀ i j, i < w.S.length → j < w.S.length → w.ι i = w.ι j → i = j
  hz : ∀ z ∈ w.Z, ∃ o, w.H z = some o
  hzl : ∀ m, m < w.S.length → w.ι m ∉ w.Z
  cell : ∀ m c, w.S[m]? = some c → CellOk K [] w (w.ι m) c
theorem CellOk.live {K : PySem.W.Frag} {pn : List (Addr × Obj)} {w : Vw} {a : Addr} {c : Cell} (h : CellOk K pn w a c) : ∃ o, w.H a = some o ∧ Mut (some o) := by
  cases c with
  | lst ds => obtain ⟨xs, h, _⟩ := h; exact ⟨_, h, trivial⟩
  | ins C gs => obtain ⟨dx, fs, h, _⟩ := h; exact ⟨_, h, trivial⟩
theorem CellOk.ext {K : PySem.W.Frag} {pn : List (Addr × Obj)} {w w' : Vw} {a : Addr} {c : Cell} (h : CellOk K pn w a c) (e : Ext w w') (k : w'.H a = w.H a) : CellOk K pn w' a c := by
  cases c with
  | lst ds => obtain ⟨xs, h, r⟩ := h; exact ⟨xs, k.trans h, r.to e⟩
  | ins C gs => obtain ⟨dx, fs, h, r⟩ := h; exact ⟨dx, fs, k.trans h, r.to e⟩
def EnvOk (K : PySem.W.Frag) (pn : List (Addr × Obj)) (w : Vw) (σ : St) (env : Env) : Prop :=
  env.length = σ.length ∧ ∀ (i : Nat) (d : D), env[i]? = some (some d) → ∃ v, σ[i]? = some (some v) ∧ Rep K pn w v d
theorem EnvOk.to {K : PySem.W.Frag} {pn : List (Addr × Obj)} {w w' : Vw} {σ : St} {env : Env} (h : EnvOk K pn w σ env) (e : Ext w w') : EnvOk K pn w' σ env :=
  ⟨h.1, fun i d q => let ⟨v, h1, h2⟩ := h.2 i d q; ⟨v, h1, h2.to e⟩⟩
theorem EnvOk.set {K : PySem.W.Frag} {pn : List (Addr × Obj)} {w : Vw} {σ : St} {env : Env} {i : Nat} {v : V} {d : D} (h : EnvOk K pn w σ env) (r : Rep K pn w v d) : EnvOk K pn w (σ.set i (some v)) (env.set i (some d)) := by
  refine ⟨by simpa using h.1, fun j e q => ?_⟩
  by_cases hj : i = j
  · subst hj
    by_cases hl : i < env.length
    · rw [List.getElem?_set_self hl] at q
      cases q
      exact ⟨v, List.getElem?_set_self (by rw [← h.1]; exact hl), r⟩
    · rw [List.getElem?_eq_none (by simpa using hl)] at q
      cases q
  · rw [List.getElem?_set_ne hj] at q
    obtain ⟨u, h1, h2⟩ := h.2 j e q
    exact ⟨u, by rw [List.getElem?_set_ne hj]; exact h1, h2⟩
theorem EnvOk.drop1 {K : PySem.W.Frag} {pn : List (Addr × Obj)} {w : Vw} {σ : St} {env : Env} {i : Nat} {x : Option V} (h : EnvOk K pn w σ env) : EnvOk K pn w (σ.set i x) (env.set i none) := by
  refine ⟨by simpa using h.1, fun j e q => ?_⟩
  by_cases hj : i = j
  · subst hj
    by_cases hl : i < env.length
    · rw [List.getElem?_set_self hl] at q
      cases q
    · rw [List.getElem?_eq_none (by simpa using hl)] at q
      cases q
  · rw [List.getElem?_set_ne hj] at q
    obtain ⟨u, h1, h2⟩ := h.2 j e q
    exact ⟨u, by rw [List.getElem?_set_ne hj]; exact h1, h2⟩

/-- what comes out -/
inductive R (α : Type) where
  | ok (a : α) (S : Sto) | exc (C : Addr) (fs : List (Str × D)) (S : Sto) | bad
  deriving Inhabited
def R.bind {α β : Type} : R α → (α → Sto → R β) → R β
  | .ok a S, k => k a S
  | .exc C fs S, _ => .exc C fs S
  | .bad, _ => .bad
def Post (K : PySem.W.Frag) {α : Type} (w : Vw) (r : R α) (P : Vw → α → Prop) (W : Vw → Addr → List (Str × D) → Prop) : Prop :=
  match r with
  | .ok a S' => ∀ w', Ext w w' → w'.S = S' → w'.Ok K → P w' a
  | .exc C fs S' => ∀ w', Ext w w' → w'.S = S' → w'.Ok K → W w' C fs
  | .bad => False
theorem Post.mono {K : PySem.W.Frag} {α : Type} {w : Vw} {r : R α} {P P' : Vw → α → Prop} {W W' : Vw → Addr → List (Str × D) → Prop} (h : Post K w r P W) (hP : ∀ w' a, Ext w w' → w'.Ok K → P w' a → P' w' a) (hW : ∀ w' C fs, Ext w w' → w'.Ok K → W w' C fs → W' w' C fs) : Post K w r P' W' := by
  cases r with
  | ok a S => exact fun w' e z o => hP _ _ e o (h w' e z o)
  | exc C fs S => exact fun w' e z o => hW _ _ _ e o (h w' e z o)
  | bad => exact h
theorem Post.bind {K : PySem.W.Frag} {α β : Type} {w : Vw} {r : R α} {k : α → Sto → R β} {P : Vw → β → Prop} {W : Vw → Addr → List (Str × D) → Prop} (h : Post K w (r.bind k) P W) :
    Post K w r (fun w1 a => Post K w1 (k a w1.S) P W) W := by
  cases r with
  | ok a S =>
    intro w1 e z o
    have h' : Post K w (k a S) P W := h
    subst z
    cases q : k a w1.S with
    | ok b S2 => rw [q] at h'; exact fun w2 e2 z2 o2 => h' w2 (e.trans e2) z2 o2
    | exc C fs S2 => rw [q] at h'; exact fun w2 e2 z2 o2 => h' w2 (e.trans e2) z2 o2
    | bad => rw [q] at h'; exact h'
  | exc C fs S => exact h
  | bad => exact h
theorem Post.ret {K : PySem.W.Frag} {α : Type} {w : Vw} {a : α} {P : Vw → α → Prop} {W : Vw → Addr → List (Str × D) → Prop} (o : w.Ok K) (h : Post K w (.ok a w.S) P W) : P w a := h w (Ext.refl w) rfl o

/-- the own dict of an exception with these fields -/
def ExA (K : PySem.W.Frag) (w : Vw) (dA : Option Addr) (gs : List (Str × D)) : Prop :=
  (gs = [] ∧ dA = none) ∨ ∃ dd fs, dA = some dd ∧ w.H dd = some (.xd fs) ∧ ¬ w.mut dd ∧ RepF K [] w fs gs
def WP (K : PySem.W.Frag) (W : WX) (σ : St) (w : Vw) (C : Addr) (gs : List (Str × D)) : Prop := ∀ dA, ExA K w dA gs → W (.ref C) dA σ w.H
/-! ### readings -/
abbrev F := Env → Sto → R D
abbrev Fa := Env → Sto → R (List D)
abbrev Ft := Env → Sto → R Bool
def RE (K : PySem.W.Frag) (pn : List (Addr × Obj)) (W : WX) (f : F) : TE := fun σ H Q => ∃ w env, w.H = H ∧ w.Ok K ∧ EnvOk K pn w σ env ∧ Post K w (f env w.S) (fun w' d => ∀ v, Rep K pn w' v d → Q v w'.H) (WP K W σ)
def RA (K : PySem.W.Frag) (pn : List (Addr × Obj)) (W : WX) (f : Fa) : TA := fun σ H Q => ∃ w env, w.H = H ∧ w.Ok K ∧ EnvOk K pn w σ env ∧ Post K w (f env w.S) (fun w' ds => ∀ vs, Reps K pn w' vs ds → Q vs w'.H) (WP K W σ)
def RT (K : PySem.W.Frag) (pn : List (Addr × Obj)) (W : WX) (f : Ft) : TT := fun σ H Q => ∃ w env, w.H = H ∧ w.Ok K ∧ EnvOk K pn w σ env ∧ Post K w (f env w.S) (fun w' b => Q b w'.H) (WP K W σ)
abbrev Pn := List (Addr × Obj)
def FE (X : Cx) (P : Pn) (W : WX) (e : Expr) (f : F) : Prop := PE X e (RE X.K P W f)
def FA (X : Cx) (P : Pn) (W : WX) (es : List Expr) (f : Fa) : Prop := PA X es (RA X.K P W f)
def FT (X : Cx) (P : Pn) (W : WX) (e : Expr) (f : Ft) : Prop := PT X e (RT X.K P W f)
def FW (X : Cx) (P : Pn) (W : WX) (e : Expr) (f : Ft) : Prop := PW X e (RT X.K P W f)

theorem peI {X : Cx} {e : Expr} {t t' : TE} (h : PE X e t) (i : ∀ σ H Q, t' σ H Q → t σ H Q) : PE X e t' := ⟨fun pins s σ H Q I q => h.run pins s σ H Q I (i _ _ _ q)⟩
theorem ptI {X : Cx} {e : Expr} {t t' : TT} (h : PT X e t) (i : ∀ σ H Q, t' σ H Q → t σ H Q) : PT X e t' := ⟨fun pins s σ H Q I q => h.run pins s σ H Q I (i _ _ _ q)⟩
theorem pwI {X : Cx} {e : Expr} {t t' : TT} (h : PW X e t) (i : ∀ σ H Q, t' σ H Q → t σ H Q) : PW X e t' := ⟨fun wh pins s σ H Q I q => h.run wh pins s σ H Q I (i _ _ _ q)⟩
theorem paI {X : Cx} {e : List Expr} {t t' : TA} (h : PA X e t) (i : ∀ σ H Q, t' σ H Q → t σ H Q) : PA X e t' := ⟨fun pos pins s σ H Q I q => h.run pos pins s σ H Q I (i _ _ _ q)⟩

section
variable {K : PySem.W.Frag} {pn : List (Addr × Obj)} {W : WX} {σ : St} {w : Vw} {env : Env}
/-- the first part of an expression is evaluated; the rest of what is wanted follows -/
theorem re_bind {f : F} {β : Type} {k : D → Sto → R β} {P : Vw → β → Prop} {Q : VK} (o : w.Ok K) (en : EnvOk K pn w σ env) (h : Post K w ((f env w.S).bind k) P (WP K W σ))
    (c : ∀ w1 v d, Ext w w1 → w1.Ok K → EnvOk K pn w1 σ env → Rep K pn w1 v d → Post K w1 (k d w1.S) P (WP K W σ) → Q v w1.H) : RE K pn W f σ w.H Q :=
  ⟨w, env, rfl, o, en, h.bind.mono (fun w1 d e1 o1 q v r => c w1 v d e1 o1 (en.to e1) r q) fun _ _ _ _ _ q => q⟩
theorem ra_bind {f : Fa} {β : Type} {k : List D → Sto → R β} {P : Vw → β → Prop} {Q : List V → Hp → Prop} (o : w.Ok K) (en : EnvOk K pn w σ env) (h : Post K w ((f env w.S).bind k) P (WP K W σ))
    (c : ∀ w1 v d, Ext w w1 → w1.Ok K → EnvOk K pn w1 σ env → Reps K pn w1 v d → Post K w1 (k d w1.S) P (WP K W σ) → Q v w1.H) : RA K pn W f σ w.H Q :=
  ⟨w, env, rfl, o, en, h.bind.mono (fun w1 d e1 o1 q v r => c w1 v d e1 o1 (en.to e1) r q) fun _ _ _ _ _ q => q⟩
theorem rt_bind {f : Ft} {β : Type} {k : Bool → Sto → R β} {P : Vw → β → Prop} {Q : Bool → Hp → Prop} (o : w.Ok K) (en : EnvOk K pn w σ env) (h : Post K w ((f env w.S).bind k) P (WP K W σ))
    (c : ∀ w1 b, Ext w w1 → w1.Ok K → EnvOk K pn w1 σ env → Post K w1 (k b w1.S) P (WP K W σ) → Q b w1.H) : RT K pn W f σ w.H Q :=
  ⟨w, env, rfl, o, en, h.bind.mono (fun w1 b e1 o1 q => c w1 b e1 o1 (en.to e1) q) fun _ _ _ _ _ q => q⟩
end
end FL
set_option maxRecDepth 100000
set_option maxHeartbeats 2000000
namespace FL
open PySem PySem.Spec PyProof.Rows L2

section
variable {K : PySem.W.Frag} {pn : List (Addr × Obj)} {w : Vw}
/-! ### new things, changed things -/
theorem Vw.Ok.fresh (o : w.Ok K) {p : Addr} (h : w.H p = none) : ¬ w.mut p := fun q => by
  rcases q with ⟨m, hm, e⟩ | q
  · obtain ⟨c, hc⟩ : ∃ c, w.S[m]? = some c := ⟨w.S[m], by simp [hm]⟩
    obtain ⟨u, hu, _⟩ := (o.cell m c hc).live
    rw [e, h] at hu
    cases hu
  · obtain ⟨u, hu⟩ := o.hz p q
    rw [h] at hu
    cases hu
abbrev Vw.nu (w : Vw) (p : Addr) (u : HO) : Vw := { w with H := upd w.H p u }
theorem Vw.nu_ext {p : Addr} {u : HO} (h : w.H p = none) : Ext w (w.nu p u) :=
  ⟨Nat.le_refl _, fun _ _ => rfl, fun m h1 h2 => absurd h2 (Nat.not_lt.mpr h1), ⟨fun _ h => h, fun _ h => .inl h⟩, fun a o q _ => (upd_ne (ne_of_none q h)).trans q, fun a o q => ⟨o, (upd_ne (ne_of_none q h)).trans q⟩⟩
theorem Vw.Ok.nu (o : w.Ok K) {p : Addr} {u : HO} (h : w.H p = none) : (w.nu p u).Ok K where
  inj := o.inj
  hz := fun z q => let ⟨x, hx⟩ := o.hz z q; ⟨x, (upd_ne (ne_of_none hx h)).trans hx⟩
  hzl := o.hzl
  cell := fun m c q => by
    obtain ⟨x, hx, _⟩ := (o.cell m c q).live
    exact (o.cell m c q).ext (Vw.nu_ext h) (upd_ne (ne_of_none hx h))
theorem Rep.newL {p : Addr} {xs : List V} {ds : List D} (o : w.Ok K) (h : w.H p = none) (r : Reps K pn w xs ds) : Rep K pn (w.nu p (.lst xs)) (.ref p) (.lst ds) :=
  .lst ⟨upd_same, o.fresh h⟩ (r.to (Vw.nu_ext h))
theorem Rep.newT {p : Addr} {xs : List V} {ds : List D} {ob : Obj} (hd : ob.dict = none) (o : w.Ok K) (h : w.H p = none) (r : Reps K pn w xs ds) : Rep K pn (w.nu p (.frz ob (.tup xs))) (.ref p) (.tup ds) :=
  .tup (.inl ⟨⟨ob, upd_same, hd⟩, o.fresh h⟩) (r.to (Vw.nu_ext h))
/-- a new cell -/
abbrev Vw.al (w : Vw) (p : Addr) (u : HO) (c : Cell) : Vw := { ι := fun m => if m = w.S.length then p else w.ι m, Z := w.Z, H := upd w.H p u, S := w.S ++ [c] }
theorem Vw.al_ext {p : Addr} {u : HO} {c : Cell} (h : w.H p = none) : Ext w (w.al p u c) where
  len := by simp
  ι := fun m hm => if_neg (Nat.ne_of_lt hm)
  new := fun m h1 h2 => by
    have e : m = w.S.length := by
      have : m < (w.S ++ [c]).length := h2
      rw [List.length_append] at this
      simp at this
      omega
    show w.H (if m = w.S.length then p else w.ι m) = none
    rw [if_pos e]
    exact h
  Z := ⟨fun _ h => h, fun _ h => .inl h⟩
  keep := fun a o q _ => (upd_ne (ne_of_none q h)).trans q
  live := fun a o q => ⟨o, (upd_ne (ne_of_none q h)).trans q⟩
theorem Vw.Ok.al (o : w.Ok K) {p : Addr} {u : HO} {c : Cell} (h : w.H p = none) (hc : CellOk K [] (w.al p u c) p c) : (w.al p u c).Ok K := by
  have ne : ∀ m, m < w.S.length → w.ι m ≠ p := fun m hm e => o.fresh h (.inl ⟨m, hm, e⟩)
  have len : (w.al p u c).S.length = w.S.length + 1 := by simp
  refine ⟨fun i j hi hj e => ?_, fun z q => ?_, fun m hm q => ?_, fun m c' q => ?_⟩
  · rw [len] at hi hj
    have e' : (if i = w.S.length then p else w.ι i) = (if j = w.S.length then p else w.ι j) := e
    by_cases h1 : i = w.S.length <;> by_cases h2 : j = w.S.length
    · omega
    · rw [if_pos h1, if_neg h2] at e'
      exact absurd e'.symm (ne j (by omega))
    · rw [if_neg h1, if_pos h2] at e'
      exact absurd e' (ne i (by omega))
    · rw [if_neg h1, if_neg h2] at e'
      exact o.inj i j (by omega) (by omega) e'
  · obtain ⟨x, hx⟩ := o.hz z q
    exact ⟨x, (upd_ne (ne_of_none hx h)).trans hx⟩
  · rw [len] at hm
    have q' : (if m = w.S.length then p else w.ι m) ∈ w.Z := q
    by_cases h1 : m = w.S.length
    · rw [if_pos h1] at q'
      exact o.fresh h (.inr q')
    · rw [if_neg h1] at q'
      exact o.hzl m (by omega) q'
  · have q' : (w.S ++ [c])[m]? = some c' := q
    show CellOk K [] (w.al p u c) (if m = w.S.length then p else w.ι m) c'
    by_cases h1 : m = w.S.length
    · subst h1
      rw [List.getElem?_append_right (Nat.le_refl _)] at q'
      simp at q'
      subst q'
      rw [if_pos rfl]
      exact hc
    · have hm : m < w.S.length := by
        have := (List.getElem?_eq_some_iff.mp q').1
        rw [List.length_append] at this
        simp at this
        omega
      rw [List.getElem?_append_left hm] at q'
      rw [if_neg h1]
      obtain ⟨x, hx, _⟩ := (o.cell m c' q').live
      exact (o.cell m c' q').ext (Vw.al_ext h) (upd_ne (ne_of_none hx h))
/-- a cell changed -/
abbrev Vw.st (w : Vw) (m : Nat) (u : HO) (c : Cell) : Vw := { w with H := upd w.H (w.ι m) u, S := w.S.set m c }
theorem Vw.st_ext {m : Nat} {u : HO} {c : Cell} (h : m < w.S.length) : Ext w (w.st m u c) where
  len := by simp
  ι := fun _ _ => rfl
  new := fun k h1 h2 => by
    have : k < (w.S.set m c).length := h2
    rw [List.length_set] at this
    omega
  Z := ⟨fun _ h => h, fun _ h => .inl h⟩
  keep := fun a o q n => (upd_ne (fun e => n ⟨m, h, e.symm⟩)).trans q
  live := fun a o q => by
    by_cases e : a = w.ι m
    · subst e
      exact ⟨u, upd_same⟩
    · exact ⟨o, (upd_ne e).trans q⟩
theorem Vw.Ok.st (o : w.Ok K) {m : Nat} {u : HO} {c : Cell} (h : m < w.S.length) (hc : CellOk K [] (w.st m u c) (w.ι m) c) : (w.st m u c).Ok K := by
  have len : (w.st m u c).S.length = w.S.length := by simp
  refine ⟨fun i j hi hj e => o.inj i j (by rw [len] at hi; exact hi) (by rw [len] at hj; exact hj) e, fun z q => ?_, fun k hk q => o.hzl k (by rw [len] at hk; exact hk) q, fun k c' q => ?_⟩
  · obtain ⟨x, hx⟩ := o.hz z q
    by_cases e : z = w.ι m
    · subst e
      exact ⟨u, upd_same⟩
    · exact ⟨x, (upd_ne e).trans hx⟩
  · have q' : (w.S.set m c)[k]? = some c' := q
    by_cases e : m = k
    · subst e
      rw [List.getElem?_set_self h] at q'
      cases q'
      exact hc
    · rw [List.getElem?_set_ne e] at q'
      have hk := (List.getElem?_eq_some_iff.mp q').1
      exact (o.cell k c' q').ext (Vw.st_ext h) (upd_ne fun z => e (o.inj _ _ h hk z.symm))
/-! ### what is read -/
def Cell.lst? : Option Cell → Option (List D)
  | some (.lst ds) => some ds
  | _ => none
def lstOf (S : Sto) : D → Option (List D)
  | .lst ds => some ds
  | .loc m => Cell.lst? S[m]?
  | _ => none
theorem lst?_some {c : Option Cell} {ds : List D} (h : Cell.lst? c = some ds) : c = some (.lst ds) := by
  cases c with
  | none => cases h
  | some c =>
    cases c with
    | lst es => cases h; rfl
    | ins C fs => cases h
/-- any list -/
def lisOf (S : Sto) : D → Option (List D)
  | .fls ds => some ds
  | d => lstOf S d
/-- any list or tuple -/
def seqOf (S : Sto) : D → Option (List D)
  | .tup ds => some ds
  | d => lisOf S d
theorem lst_of {v : V} {d : D} {ds : List D} (o : w.Ok K) (r : Rep K pn w v d) (e : lstOf w.S d = some ds) : ∃ a xs, v = .ref a ∧ w.H a = some (.lst xs) ∧ Reps K pn w xs ds := by
  cases r with
  | lst h r =>
    cases e
    exact ⟨_, _, rfl, h.1, r⟩
  | @loc m h =>
    obtain ⟨xs, h1, r1⟩ := o.cell m _ (lst?_some e)
    exact ⟨_, xs, rfl, h1, r1.ext (Ext.refl w) (fun _ z => absurd z (by simp))⟩
  | _ => cases e
theorem lis_of {v : V} {d : D} {ds : List D} (o : w.Ok K) (r : Rep K pn w v d) (e : lisOf w.S d = some ds) : ∃ a xs, v = .ref a ∧ SqL K w.H a xs ∧ Reps K pn w xs ds := by
  by_cases hd : ∃ es, d = .fls es
  · obtain ⟨es, rfl⟩ := hd
    cases r with
    | fls h r =>
      cases e
      exact ⟨_, _, rfl, h.sq, r⟩
  · have e' : lstOf w.S d = some ds := by
      unfold lisOf at e
      split at e
      · exact absurd ⟨_, rfl⟩ hd
      · exact e
    obtain ⟨a, xs, h1, h2, h3⟩ := lst_of o r e'
    exact ⟨a, xs, h1, SqL.of h2, h3⟩
theorem tup_of {v : V} {ds : List D} (r : Rep K pn w v (.tup ds)) : ∃ a xs, v = .ref a ∧ SqT K w.H a xs ∧ Reps K pn w xs ds := by
  cases r with
  | tup h r => exact ⟨_, _, rfl, h.sq, r⟩
theorem seq_of {v : V} {d : D} {ds : List D} (o : w.Ok K) (r : Rep K pn w v d) (e : seqOf w.S d = some ds) : ∃ a xs, v = .ref a ∧ (SqL K w.H a xs ∨ SqT K w.H a xs) ∧ Reps K pn w xs ds := by
  by_cases hd : ∃ es, d = .tup es
  · obtain ⟨es, rfl⟩ := hd
    cases e
    obtain ⟨a, xs, h1, h2, h3⟩ := tup_of r
    exact ⟨a, xs, h1, .inr h2, h3⟩
  · have e' : lisOf w.S d = some ds := by
      unfold seqOf at e
      split at e
      · exact absurd ⟨_, rfl⟩ hd
      · exact e
    obtain ⟨a, xs, h1, h2, h3⟩ := lis_of o r e'
    exact ⟨a, xs, h1, .inl h2, h3⟩
end

/-! ### operations by values that leave the store -/
def Sim2 (K : PySem.W.Frag) (pn : List (Addr × Obj)) (r : R2) (g : Sto → D → D → Option D) : Prop :=
  ∀ (w : Vw) (x y : V) (d e z : D) (Q : VK), w.Ok K → Rep K pn w x d → Rep K pn w y e → g w.S d e = some z → (∀ w' v, Ext w w' → w'.S = w.S → w'.Ok K → Rep K pn w' v z → Q v w'.H) → r x y w.H Q
def Sim1 (K : PySem.W.Frag) (pn : List (Addr × Obj)) (r : V → Hp → VK → Prop) (g : Sto → D → Option D) : Prop :=
  ∀ (w : Vw) (x : V) (d z : D) (Q : VK), w.Ok K → Rep K pn w x d → g w.S d = some z → (∀ w' v, Ext w w' → w'.S = w.S → w'.Ok K → Rep K pn w' v z → Q v w'.H) → r x w.H Q
def SimC (K : PySem.W.Frag) (pn : List (Addr × Obj)) (r : List V → Hp → VK → Prop) (g : Sto → List D → Option D) : Prop :=
  ∀ (w : Vw) (xs : List V) (ds : List D) (z : D) (Q : VK), w.Ok K → Reps K pn w xs ds → g w.S ds = some z → (∀ w' v, Ext w w' → w'.S = w.S → w'.Ok K → Rep K pn w' v z → Q v w'.H) → r xs w.H Q
def R.of {α : Type} (o : Option α) (S : Sto) : R α := match o with
  | some a => .ok a S
  | none => .bad
theorem Post.of {K : PySem.W.Frag} {α : Type} {w : Vw} {o : Option α} {P : Vw → α → Prop} {W : Vw → Addr → List (Str × D) → Prop} (h : Post K w (R.of o w.S) P W) : ∃ z, o = some z ∧ ∀ w', Ext w w' → w'.S = w.S → w'.Ok K → P w' z := by
  cases o with
  | some z => exact ⟨z, rfl, h⟩
  | none => exact h.elim

/-- how many an argument list has -/
class Len (f : Fa) (n : outParam Nat) : Prop where
  len : ∀ env S ds S', f env S = .ok ds S' → ds.length = n
/-! ### expressions -/
def fVar (i : Nat) : F := fun env S => match env[i]? with
  | some (some d) => .ok d S
  | _ => .bad
def fC (d : D) : F := fun _ S => .ok d S
def fBin (g : Sto → D → D → Option D) (fa fb : F) : F := fun env S => (fa env S).bind fun d S1 => (fb env S1).bind fun e S2 => R.of (g S2 d e) S2
def fUn (g : Sto → D → Option D) (fa : F) : F := fun env S => (fa env S).bind fun d S1 => R.of (g S1 d) S1
def fBu (g : Sto → List D → Option D) (fa : Fa) : F := fun env S => (fa env S).bind fun ds S1 => R.of (g S1 ds) S1
def fNil : Fa := fun _ S => .ok [] S
def fCons (f : F) (g : Fa) : Fa := fun env S => (f env S).bind fun d S1 => (g env S1).bind fun ds S2 => .ok (d :: ds) S2
def fTup (f : Fa) : F := fun env S => (f env S).bind fun ds S1 => .ok (.tup ds) S1
def fLst (f : Fa) : F := fun env S => (f env S).bind fun ds S1 => .ok (.lst ds) S1
/-- a list that will be changed: a new cell -/
def fLoc (f : Fa) : F := fun env S => (f env S).bind fun ds S1 => .ok (.loc S1.length) (S1 ++ [.lst ds])
def fB (f : F) : Ft := fun env S => (f env S).bind fun d S1 => match d with
  | .bl b => .ok b S1
  | _ => .bad
def fIf (c : Ft) (fa fb : F) : F := fun env S => (c env S).bind fun b S1 => if b = true then fa env S1 else fb env S1
def fNot (c : Ft) : Ft := fun env S => (c env S).bind fun b S1 => .ok (!b) S1
def fAnd (c d : Ft) : Ft := fun env S => (c env S).bind fun b S1 => if b = true then d env S1 else .ok false S1
def fOr (c d : Ft) : Ft := fun env S => (c env S).bind fun b S1 => if b = true then .ok true S1 else d env S1
/-- not, and, or of bools as values -/
def fV (c : Ft) : F := fun env S => (c env S).bind fun b S1 => .ok (.bl b) S1
def fNotV (f : F) : F := fV (fNot (fB f))
def fAndV (f g : F) : F := fun env S => (fB f env S).bind fun b S1 => if b = true then g env S1 else .ok (.bl false) S1
def fOrV (f g : F) : F := fun env S => (fB f env S).bind fun b S1 => if b = true then .ok (.bl true) S1 else g env S1
instance : Len fNil 0 := ⟨fun _ _ ds _ e => by cases e; rfl⟩
instance {f : F} {g : Fa} {n : Nat} [L : Len g n] : Len (fCons f g) (n + 1) := ⟨fun env S ds S' e => by
  unfold fCons at e
  cases q : f env S with
  | ok d S1 =>
    rw [q] at e
    have e' : (g env S1).bind (fun ds S2 => R.ok (d :: ds) S2) = .ok ds S' := e
    cases q2 : g env S1 with
    | ok es S2 =>
      rw [q2] at e'
      cases e'
      rw [List.length_cons, L.len _ _ _ _ q2]
    | _ => rw [q2] at e'; cases e'
  | _ => rw [q] at e; cases e⟩
section
variable {X : Cx} {P : Pn} {W : WX} {a b c : Expr} {es : List Expr} {fa fb : F} {fs : Fa} {ft fu : Ft} {pos : Pos}
theorem fe_var {i : Nat} {x : Str} {pos : Pos} (h : PE X (.Name x pos) (tVar i)) : FE X P W (.Name x pos) (fVar i) := peI h fun σ H Q ⟨w, env, hH, o, en, p⟩ => by
  subst hH
  unfold fVar at p
  cases e : env[i]? with
  | none => rw [e] at p; exact p.elim
  | some x =>
    cases x with
    | none => rw [e] at p; exact p.elim
    | some d =>
      rw [e] at p
      obtain ⟨v, h1, h2⟩ := en.2 i d e
      exact ⟨v, h1, p.ret o v h2⟩
theorem fe_c {v : V} {d : D} (h : PE X a (tC v)) (hd : ∀ w, Rep X.K P w v d) : FE X P W a (fC d) := peI h fun σ H Q ⟨w, env, hH, o, en, p⟩ => by
  subst hH
  exact Post.ret (a := d) o p v (hd w)
theorem fe_int {i j pos} : FE X P W (.Constant (.int i) j pos) (fC (.int i)) := fe_c pe_int fun _ => .int _
theorem fe_bl {b j pos} : FE X P W (.Constant (.bool b) j pos) (fC (.bl b)) := fe_c pe_bl fun _ => .bl _
theorem fe_non {j pos} : FE X P W (.Constant .none j pos) (fC .non) := fe_c pe_non fun _ => .non
theorem fe_str {x j pos} : FE X P W (.Constant (.str x) j pos) (fC (.str x)) := fe_c pe_str fun _ => .str _
theorem fe_op {op : Operator} {r : R2} {g : Sto → D → D → Option D} (ho : OpR X (binaryOp op) r) (hg : Sim2 X.K P r g) (ha : FE X P W a fa) (hb : FE X P W b fb) : FE X P W (.BinOp a op b pos) (fBin g fa fb) :=
  peI (pe_op ho ha hb) fun σ H Q ⟨w, env, hH, o, en, p⟩ => by
    subst hH
    refine re_bind o en p fun w1 x d e1 o1 en1 r1 p1 => re_bind o1 en1 p1 fun w2 y e e2 o2 en2 r2 p2 => ?_
    obtain ⟨z, hz, q⟩ := p2.of
    exact hg w2 x y d e z Q o2 (r1.to e2) r2 hz fun w' v e' s' o' r' => q w' e' s' o' v r'
theorem fe_un {op : UnaryOp} {r : V → Hp → VK → Prop} {g : Sto → D → Option D} (ho : UnR X (unaryOp op) r) (hg : Sim1 X.K P r g) (ha : FE X P W a fa) : FE X P W (.UnaryOp op a pos) (fUn g fa) :=
  peI (pe_un ho ha) fun σ H Q ⟨w, env, hH, o, en, p⟩ => by
    subst hH
    refine re_bind o en p fun w1 x d e1 o1 en1 r1 p1 => ?_
    obtain ⟨z, hz, q⟩ := p1.of
    exact hg w1 x d z Q o1 r1 hz fun w' v e' s' o' r' => q w' e' s' o' v r'
theorem fe_cmp {op : CmpOp} {r : R2} {g : Sto → D → D → Option D} (ho : OpR X (compareOp op) r) (hm : behindInMarks op b = false) (hg : Sim2 X.K P r g) (ha : FE X P W a fa) (hb : FE X P W b fb) : FE X P W (.Compare a [op] [b] pos) (fBin g fa fb) :=
  peI (pe_cmpR ho ha hb hm) fun σ H Q ⟨w, env, hH, o, en, p⟩ => by
    subst hH
    refine re_bind o en p fun w1 x d e1 o1 en1 r1 p1 => re_bind o1 en1 p1 fun w2 y e e2 o2 en2 r2 p2 => ?_
    obtain ⟨z, hz, q⟩ := p2.of
    exact hg w2 x y d e z Q o2 (r1.to e2) r2 hz fun w' v e' s' o' r' => q w' e' s' o' v r'
/-- the answer of a rule, taken as a test -/
theorem ft_fin {K : PySem.W.Frag} {pn : List (Addr × Obj)} {W : WX} {σ : St} {w : Vw} {o : Option D} {Q : Bool → Hp → Prop} (p : Post K w ((R.of o w.S).bind fun d S1 => match d with
      | .bl b => .ok b S1
      | _ => .bad) (fun w' b => Q b w'.H) (WP K W σ)) : ∃ b, o = some (.bl b) ∧ ∀ w', Ext w w' → w'.S = w.S → w'.Ok K → Q b w'.H := by
  cases o with
  | none => exact p.elim
  | some d => cases d with
    | bl b => exact ⟨b, rfl, p⟩
    | _ => exact p.elim
theorem bind_assoc {α β γ : Type} (r : R α) (k : α → Sto → R β) (l : β → Sto → R γ) : (r.bind k).bind l = r.bind fun a S => (k a S).bind l := by
  cases r <;> rfl
theorem ft_cmp {op : CmpOp} {r : R2} {g : Sto → D → D → Option D} (ho : OpR X (compareOp op) r) (hm : behindInMarks op b = false) (hg : Sim2 X.K P r g) (ha : FE X P W a fa) (hb : FE X P W b fb) : FT X P W (.Compare a [op] [b] pos) (fB (fBin g fa fb)) :=
  ptI (pt_cmpR ho ha hb hm) fun σ H Q ⟨w, env, hH, o, en, p⟩ => by
    subst hH
    unfold fB fBin at p
    rw [bind_assoc] at p
    unfold L2.tTest tOp
    refine re_bind o en p fun w1 x d e1 o1 en1 r1 p1 => ?_
    rw [bind_assoc] at p1
    refine re_bind o1 en1 p1 fun w2 y e e2 o2 en2 r2 p2 => ?_
    obtain ⟨b, hz, q⟩ := ft_fin (pn := P) p2
    exact hg w2 x y d e _ _ o2 (r1.to e2) r2 hz fun w' v e' s' o' r' => by
      cases r'
      exact ⟨b, rfl, q w' e' s' o'⟩
/-- a bool's expression as a test -/
theorem ft_val (h : FE X P W a fa) (he : ∀ whole, isTrue a X.env whole = (do let v ← whole; standAt a.pos; holding [v] (truthy v)) := by intro _; rfl) : FT X P W a (fB fa) :=
  ptI (pt_val h he) fun σ H Q ⟨w, env, hH, o, en, p⟩ => by
    subst hH
    refine re_bind o en p fun w1 x d e1 o1 en1 r1 p1 => ?_
    cases r1 with
    | bl b => exact ⟨b, rfl, Post.ret (a := b) o1 p1⟩
    | _ => exact p1.elim
theorem fw_t (h : FW X P W a ft) : FT X P W a ft := PW.pt h
theorem fw_and1 (ha : FT X P W a ft) : FW X P W (.BoolOp .And [a] pos) ft := pw_and1 ha
theorem fw_or1 (ha : FT X P W a ft) : FW X P W (.BoolOp .Or [a] pos) ft := pw_or1 ha
theorem fw_and (ha : FT X P W a ft) (hb : FW X P W (.BoolOp .And (b :: es) pos) fu) : FW X P W (.BoolOp .And (a :: b :: es) pos) (fAnd ft fu) :=
  pwI (pw_and ha hb) fun σ H Q ⟨w, env, hH, o, en, p⟩ => by
    subst hH
    refine rt_bind o en p fun w1 k e1 o1 en1 p1 => ?_
    cases k with
    | true => exact ⟨w1, env, rfl, o1, en1, p1⟩
    | false => exact Post.ret (a := false) o1 p1
theorem fw_or (ha : FT X P W a ft) (hb : FW X P W (.BoolOp .Or (b :: es) pos) fu) : FW X P W (.BoolOp .Or (a :: b :: es) pos) (fOr ft fu) :=
  pwI (pw_or ha hb) fun σ H Q ⟨w, env, hH, o, en, p⟩ => by
    subst hH
    refine rt_bind o en p fun w1 k e1 o1 en1 p1 => ?_
    cases k with
    | true => exact Post.ret (a := true) o1 p1
    | false => exact ⟨w1, env, rfl, o1, en1, p1⟩
theorem ft_not (ha : FT X P W a ft) : FT X P W (.UnaryOp .Not a pos) (fNot ft) :=
  ptI (pt_not ha) fun σ H Q ⟨w, env, hH, o, en, p⟩ => by
    subst hH
    refine rt_bind o en p fun w1 k e1 o1 en1 p1 => ?_
    exact Post.ret (a := !k) o1 p1
theorem fe_one {op} (h : FE X P W a fa) : FE X P W (.BoolOp op [a] pos) fa := pe_one h
theorem fe_and (ha : FE X P W a fa) (hb : FE X P W (.BoolOp .And (b :: es) pos) fb) : FE X P W (.BoolOp .And (a :: b :: es) pos) (fAndV fa fb) :=
  peI (pe_and ha hb) fun σ H Q ⟨w, env, hH, o, en, p⟩ => by
    subst hH
    unfold fAndV fB at p
    rw [bind_assoc] at p
    refine re_bind o en p fun w1 x d e1 o1 en1 r1 p1 => ?_
    cases r1 with
    | bl k =>
      refine ⟨k, rfl, ?_⟩
      cases k with
      | true => exact ⟨w1, env, rfl, o1, en1, p1⟩
      | false => exact Post.ret (a := D.bl false) o1 p1 _ (.bl _)
    | _ => exact p1.elim
theorem fe_not (ha : FE X P W a fa) : FE X P W (.UnaryOp .Not a pos) (fNotV fa) :=
  peI (pe_not ha) fun σ H Q ⟨w, env, hH, o, en, p⟩ => by
    subst hH
    unfold fNotV fV fNot fB at p
    rw [bind_assoc, bind_assoc] at p
    refine re_bind o en p fun w1 x d e1 o1 en1 r1 p1 => ?_
    cases r1 with
    | bl k => exact ⟨k, rfl, Post.ret (a := D.bl (!k)) o1 p1 _ (.bl _)⟩
    | _ => exact p1.elim
theorem fa_nil : FA X P W [] fNil := paI pa_nil fun σ H Q ⟨w, env, hH, o, en, p⟩ => by
  subst hH
  exact Post.ret (a := ([] : List D)) o p _ .nil
theorem fa_cons (ha : FE X P W a fa) (hr : FA X P W es fs) (hs : starEach (a :: es) X.env = (false, eval a X.env) :: starEach es X.env := by rfl) : FA X P W (a :: es) (fCons fa fs) :=
  paI (pa_cons ha hr hs) fun σ H Q ⟨w, env, hH, o, en, p⟩ => by
    subst hH
    refine re_bind o en p fun w1 x d e1 o1 en1 r1 p1 => ra_bind o1 en1 p1 fun w2 xs ds e2 o2 en2 r2 p2 => ?_
    exact Post.ret (a := d :: ds) o2 p2 _ (.cons (r1.to e2) r2)
/-- a tuple is written: its object is kept in mind -/
def tTupZ (t : TA) : TE := fun σ H Q => t σ H fun xs H1 => xs.length ≤ sizeLine ∧ ∀ p (ob : Obj), H1 p = none → ob.dict = none → Q (.ref p) (upd H1 p (.frz ob (.tup xs)))
theorem pe_tupZ {X : Cx} {es : List Expr} {t : TA} {pos : Pos} {x1} (h : PA X es t) : PE X (.Tuple es x1 pos) (tTupZ t) := by
  refine ⟨fun pins s σ H Q I hq => ?_⟩
  refine wpAny_Tuple_spliced (thn (h.run pos pins s σ H _ I hq) fun us s1 ⟨xs, H1, I1, r, z, q⟩ => ⟨by rw [← r.length]; exact z, ?_⟩)
  have hf : H1 s1.heap.objs.size = none := I1.hok.fresh (Nat.le_refl _)
  refine ⟨.ref s1.heap.objs.size, upd H1 s1.heap.objs.size (.frz { cls := .type "tuple", data := .seq us.toArray } (.tup xs)), I1.laid (t' := s1.toks) (fun b u e => Heap.get?_push_of_some _ e) (Nat.le_refl _) ?_, rfl, q _ _ hf rfl⟩
  exact ⟨Heap.get?_push_size _ rfl, z, us, r, ⟨_, Heap.get?_push_size _ rfl, rfl, _, rfl⟩⟩
theorem fe_tup {x1} {n : Nat} (h : FA X P W es fs) [L : Len fs n] (hl : n ≤ 1000 := by decide) : FE X P W (.Tuple es x1 pos) (fTup fs) :=
  peI (pe_tupZ h) fun σ H Q ⟨w, env, hH, o, en, p⟩ => by
    subst hH
    have key : ∀ ds, (∃ S', fs env w.S = .ok ds S') → ds.length ≤ sizeLine := fun ds ⟨S', e⟩ => by
      rw [L.len _ _ _ _ e, sizeLine_eq]
      omega
    cases q : fs env w.S with
    | bad => unfold fTup at p; rw [q] at p; exact p.elim
    | exc C gs S' =>
      unfold fTup at p; rw [q] at p
      exact ⟨w, env, rfl, o, en, by rw [q]; exact p⟩
    | ok ds S' =>
      unfold fTup at p; rw [q] at p
      refine ⟨w, env, rfl, o, en, ?_⟩
      rw [q]
      intro w1 e1 s1 o1 xs r1
      refine ⟨by rw [r1.length]; exact key ds ⟨_, q⟩, fun pt ob hp hd => ?_⟩
      exact p (w1.nu pt (.frz ob (.tup xs))) (e1.trans (Vw.nu_ext hp)) s1 (o1.nu hp) _ (Rep.newT hd o1 hp r1)
theorem fe_lst {n : Nat} (h : FA X P W es fs) [L : Len fs n] (hl : n ≤ 1000 := by decide) : FE X P W (.List es pos) (fLst fs) :=
  peI (pe_lst h) fun σ H Q ⟨w, env, hH, o, en, p⟩ => by
    subst hH
    have key : ∀ ds, (∃ S', fs env w.S = .ok ds S') → ds.length ≤ sizeLine := fun ds ⟨S', e⟩ => by
      rw [L.len _ _ _ _ e, sizeLine_eq]
      omega
    cases q : fs env w.S with
    | bad => unfold fLst at p; rw [q] at p; exact p.elim
    | exc C gs S' =>
      unfold fLst at p; rw [q] at p
      exact ⟨w, env, rfl, o, en, by rw [q]; exact p⟩
    | ok ds S' =>
      unfold fLst at p; rw [q] at p
      refine ⟨w, env, rfl, o, en, ?_⟩
      rw [q]
      intro w1 e1 s1 o1 xs r1
      refine ⟨by rw [r1.length]; exact key ds ⟨_, q⟩, fun pt hp => ?_⟩
      exact p (w1.nu pt (.lst xs)) (e1.trans (Vw.nu_ext hp)) s1 (o1.nu hp) _ (Rep.newL o1 hp r1)
theorem noexn {K : PySem.W.Frag} {w : Vw} {pn : List (Addr × Obj)} (hpn : pn = []) {xs : List V} {ds : List D} (r : Reps K pn w xs ds) : Reps K [] w xs ds := by rw [hpn] at r; exact r
/-- a list that will be changed; not within an except suite -/
theorem fe_loc {n : Nat} (hpn : P = []) (h : FA X P W es fs) [L : Len fs n] (hl : n ≤ 1000 := by decide) : FE X P W (.List es pos) (fLoc fs) :=
  peI (pe_lst h) fun σ H Q ⟨w, env, hH, o, en, p⟩ => by
    subst hH
    have key : ∀ ds, (∃ S', fs env w.S = .ok ds S') → ds.length ≤ sizeLine := fun ds ⟨S', e⟩ => by
      rw [L.len _ _ _ _ e, sizeLine_eq]
      omega
    cases q : fs env w.S with
    | bad => unfold fLoc at p; rw [q] at p; exact p.elim
    | exc C gs S' =>
      unfold fLoc at p; rw [q] at p
      exact ⟨w, env, rfl, o, en, by rw [q]; exact p⟩
    | ok ds S' =>
      unfold fLoc at p; rw [q] at p
      refine ⟨w, env, rfl, o, en, ?_⟩
      rw [q]
      intro w1 e1 s1 o1 xs r1
      refine ⟨by rw [r1.length]; exact key ds ⟨_, q⟩, fun pt hp => ?_⟩
      subst s1
      have e2 := Vw.al_ext (u := .lst xs) (c := .lst ds) hp
      refine p (w1.al pt (.lst xs) (.lst ds)) (e1.trans e2) rfl (o1.al hp ⟨xs, upd_same, (noexn hpn r1).to e2⟩) _ ?_
      have z : (w1.al pt (.lst xs) (.lst ds)).ι w1.S.length = pt := if_pos rfl
      have r := Rep.loc (K := X.K) (pn := P) (w := w1.al pt (.lst xs) (.lst ds)) (m := w1.S.length) (by simp)
      rw [z] at r
      exact r
end
end FL
--import HandS.CallSlots
--import HandS.Defaults
set_option maxRecDepth 100000
set_option maxHeartbeats 2000000
namespace FL
open PySem PySem.Spec PyProof.Rows L2

/-! ### statements -/
inductive Fl where
  | nx (env : Env) | rt (d : D) | bk (env : Env) | ct (env : Env)
inductive RS where
  | fl (f : Fl) (S : Sto) | exc (env : Env) (C : Addr) (fs : List (Str × D)) (S : Sto) | bad
abbrev SF := Env → Sto → RS
def R.bindS {α : Type} (env : Env) : R α → (α → Sto → RS) → RS
  | .ok a S, k => k a S
  | .exc C fs S, _ => .exc env C fs S
  | .bad, _ => .bad
def PostS (K : PySem.W.Frag) (pn : Pn) (w : Vw) (r : RS) (D : Ends) (W : WX) : Prop :=
  match r with
  | .fl (.nx env) S' => ∀ w' σ', Ext w w' → w'.S = S' → w'.Ok K → EnvOk K pn w' σ' env → D.nx σ' w'.H
  | .fl (.rt d) S' => ∀ w' v, Ext w w' → w'.S = S' → w'.Ok K → Rep K pn w' v d → D.rt v w'.H
  | .fl (.bk env) S' => ∀ w' σ', Ext w w' → w'.S = S' → w'.Ok K → EnvOk K pn w' σ' env → D.bk σ' w'.H
  | .fl (.ct env) S' => ∀ w' σ', Ext w w' → w'.S = S' → w'.Ok K → EnvOk K pn w' σ' env → D.ct σ' w'.H
  | .exc env C fs S' => ∀ w' σ', Ext w w' → w'.S = S' → w'.Ok K → EnvOk K pn w' σ' env → WP K W σ' w' C fs
  | .bad => False
def RSt (K : PySem.W.Frag) (pn : Pn) (W : WX) (g : SF) : TS := fun D σ H => ∃ w env, w.H = H ∧ w.Ok K ∧ EnvOk K pn w σ env ∧ PostS K pn w (g env w.S) D W
def FS (X : Cx) (P : Pn) (W : WX) (st : Stmt) (g : SF) : Prop := PS X st (RSt X.K P W g)
def FSs (X : Cx) (P : Pn) (W : WX) (sts : List Stmt) (g : SF) : Prop := PSs X sts (RSt X.K P W g)
theorem psI {X : Cx} {e : Stmt} {t t' : TS} (h : PS X e t) (i : ∀ D σ H, t' D σ H → t D σ H) : PS X e t' := ⟨fun pins s σ H D I q => h.run pins s σ H D I (i _ _ _ q)⟩
theorem pssI {X : Cx} {e : List Stmt} {t t' : TS} (h : PSs X e t) (i : ∀ D σ H, t' D σ H → t D σ H) : PSs X e t' := ⟨fun pins s σ H D I q => h.run pins s σ H D I (i _ _ _ q)⟩

section
variable {K : PySem.W.Frag} {pn : Pn} {W : WX} {σ : St} {w w1 : Vw} {env : Env} {D : Ends}
theorem PostS.to {r : RS} (h : PostS K pn w r D W) (e : Ext w w1) : PostS K pn w1 r D W := by
  cases r with
  | fl f S => cases f with
    | nx env => exact fun w' σ' e' => h w' σ' (e.trans e')
    | rt d => exact fun w' v e' => h w' v (e.trans e')
    | bk env => exact fun w' σ' e' => h w' σ' (e.trans e')
    | ct env => exact fun w' σ' e' => h w' σ' (e.trans e')
  | exc env C fs S => exact fun w' σ' e' => h w' σ' (e.trans e')
  | bad => exact h
theorem Post.ofS {α : Type} {r : R α} {k : α → Sto → RS} (en : EnvOk K pn w σ env) (h : PostS K pn w (r.bindS env k) D W) :
    Post K w r (fun w1 a => PostS K pn w1 (k a w1.S) D W) (WP K W σ) := by
  cases r with
  | ok a S =>
    intro w1 e z o
    subst z
    exact PostS.to (show PostS K pn w (k a w1.S) D W from h) e
  | exc C fs S => exact fun w1 e z o => h w1 σ e z o (en.to e)
  | bad => exact h
theorem rs_bind {f : F} {k : FL.D → Sto → RS} {Q : VK} (o : w.Ok K) (en : EnvOk K pn w σ env) (h : PostS K pn w ((f env w.S).bindS env k) D W)
    (c : ∀ w1 v d, Ext w w1 → w1.Ok K → EnvOk K pn w1 σ env → Rep K pn w1 v d → PostS K pn w1 (k d w1.S) D W → Q v w1.H) : RE K pn W f σ w.H Q :=
  ⟨w, env, rfl, o, en, (Post.ofS en h).mono (fun w1 d e1 o1 q v r => c w1 v d e1 o1 (en.to e1) r q) fun _ _ _ _ _ q => q⟩
theorem rst_bind {f : Ft} {k : Bool → Sto → RS} {Q : Bool → Hp → Prop} (o : w.Ok K) (en : EnvOk K pn w σ env) (h : PostS K pn w ((f env w.S).bindS env k) D W)
    (c : ∀ w1 b, Ext w w1 → w1.Ok K → EnvOk K pn w1 σ env → PostS K pn w1 (k b w1.S) D W → Q b w1.H) : RT K pn W f σ w.H Q :=
  ⟨w, env, rfl, o, en, (Post.ofS en h).mono (fun w1 b e1 o1 q => c w1 b e1 o1 (en.to e1) q) fun _ _ _ _ _ q => q⟩
end
def sNext : SF := fun env S => .fl (.nx env) S
def sSeq (g h : SF) : SF := fun env S => match g env S with
  | .fl (.nx env') S' => h env' S'
  | r => r
def sDrop (f : F) : SF := fun env S => (f env S).bindS env fun _ S1 => .fl (.nx env) S1
def sRet (f : F) : SF := fun env S => (f env S).bindS env fun d S1 => .fl (.rt d) S1
def sRetN : SF := fun _ S => .fl (.rt .non) S
def sBreak : SF := fun env S => .fl (.bk env) S
def sCont : SF := fun env S => .fl (.ct env) S
def sIf (c : Ft) (g h : SF) : SF := fun env S => (c env S).bindS env fun b S1 => if b = true then g env S1 else h env S1
abbrev TGf := D → Env → Sto → Option Env
def gN (i : Nat) : TGf := fun d env _ => some (env.set i (some d))
def sAsg (f : F) (g : TGf) : SF := fun env S => (f env S).bindS env fun d S1 => match g d env S1 with
  | some env' => .fl (.nx env') S1
  | none => .bad
def RG (K : PySem.W.Frag) (pn : Pn) (g : TGf) : TG := fun v σ H Q => ∃ w env d env', w.H = H ∧ w.Ok K ∧ EnvOk K pn w σ env ∧ Rep K pn w v d ∧ g d env w.S = some env' ∧ ∀ w' σ', Ext w w' → w'.S = w.S → w'.Ok K → EnvOk K pn w' σ' env' → Q σ' w'.H
def FG (X : Cx) (P : Pn) (tg : Expr) (g : TGf) : Prop := PG X tg (RG X.K P g)
theorem pgI {X : Cx} {e : Expr} {t t' : TG} (h : PG X e t) (i : ∀ v σ H Q, t' v σ H Q → t v σ H Q) : PG X e t' := ⟨fun pins s σ H v u Q I r q => h.run pins s σ H v u Q I r (i _ _ _ _ q)⟩
section
variable {X : Cx} {P : Pn} {W : WX} {st : Stmt} {rest : List Stmt} {g h : SF} {e c : Expr} {f : F} {ft : Ft} {pos : Pos}
theorem fs_nil : FSs X P W [] sNext := pssI pss_nil fun D σ H ⟨w, env, hH, o, en, p⟩ => by
  subst hH
  exact p w σ (Ext.refl w) rfl o en
theorem fs_cons (h1 : FS X P W st g) (h2 : FSs X P W rest h) : FSs X P W (st :: rest) (sSeq g h) := pssI (pss_cons h1 h2) fun D σ H ⟨w, env, hH, o, en, p⟩ => by
  subst hH
  refine ⟨w, env, rfl, o, en, ?_⟩
  unfold sSeq at p
  cases q : g env w.S with
  | fl f S => cases f with
    | nx env' =>
      rw [q] at p
      intro w1 σ1 e1 s1 o1 en1
      subst s1
      exact ⟨w1, env', rfl, o1, en1, p.to e1⟩
    | _ => rw [q] at p; exact p
  | _ => rw [q] at p; exact p
theorem fs_one (h1 : FS X P W st g) : FSs X P W [st] g := pss_one h1
theorem fs_expr (he : FE X P W e f) (hs : swapsWith e none pos.line X.env = pure false := by rfl) : FS X P W (.Expr e pos) (sDrop f) := psI (ps_expr he hs) fun D σ H ⟨w, env, hH, o, en, p⟩ => by
  subst hH
  refine rs_bind o en p fun w1 v d e1 o1 en1 r1 p1 => ?_
  exact p1 w1 σ (Ext.refl w1) rfl o1 en1
theorem fs_ret (he : FE X P W e f) : FS X P W (.Return (some e) pos) (sRet f) := psI (ps_ret he) fun D σ H ⟨w, env, hH, o, en, p⟩ => by
  subst hH
  refine rs_bind o en p fun w1 v d e1 o1 en1 r1 p1 => ?_
  exact p1 w1 v (Ext.refl w1) rfl o1 r1
theorem fs_if {a b : List Stmt} (hc : FT X P W c ft) (ha : FSs X P W a g) (hb : FSs X P W b h) : FS X P W (.If c a b pos) (sIf ft g h) := psI (ps_if hc ha hb) fun D σ H ⟨w, env, hH, o, en, p⟩ => by
  subst hH
  refine rst_bind o en p fun w1 k e1 o1 en1 p1 => ?_
  cases k with
  | true => exact ⟨w1, env, rfl, o1, en1, p1⟩
  | false => exact ⟨w1, env, rfl, o1, en1, p1⟩
theorem fg_name {i : Nat} {x : Str} (hN : X.N.Nodup) (hi : X.N[i]? = some x) (hx : Loc X.env.scope x) (hf : X.fn x = true ∨ X.env.scope.names.lookup x = some .local := by first | exact .inl rfl | exact .inr rfl | assumption) : FG X P (.Name x pos) (gN i) :=
  pgI (pg_name hN hi hx hf) fun v σ H Q ⟨w, env, d, env', hH, o, en, r, q, h⟩ => by
    subst hH
    cases q
    exact h w _ (Ext.refl w) rfl o (en.set r)
theorem fs_set {i : Nat} {x : Str} {pos' : Pos} (hN : X.N.Nodup) (hi : X.N[i]? = some x) (hx : Loc X.env.scope x) (he : FE X P W e f) (hs : swapsWith e (some (.Name x pos')) pos.line X.env = pure false := by rfl) (hf : X.fn x = true ∨ X.env.scope.names.lookup x = some .local := by first | exact .inl rfl | exact .inr rfl | assumption) :
    FS X P W (.Assign [.Name x pos'] e pos) (sAsg f (gN i)) := psI (ps_set hN hi hx he hs hf) fun D σ H ⟨w, env, hH, o, en, p⟩ => by
  subst hH
  refine rs_bind o en p fun w1 v d e1 o1 en1 r1 p1 => ?_
  exact p1 w1 _ (Ext.refl w1) rfl o1 (en1.set r1)
end

/-! ### for -/
inductive Src where
  | fix (ds : List D) | cell (m : Nat) | zip (s t : Src)
def nextIn (ds : List D) (i : Nat) : Option D := ds[i]?
def Src.next : Src → Sto → Nat → Option (Option D)
  | .fix ds, _, i => some ds[i]?
  | .cell m, S, i => (Cell.lst? S[m]?).map fun ds => ds[i]?
  | .zip s t, S, i => match s.next S i, t.next S i with
    | some (some x), some (some y) => some (some (.tup [x, y]))
    | some _, some _ => (match i with
      | 0 => some none
      | j + 1 => match s.next S j, t.next S j with
        | some (some _), some (some _) => some none
        | _, _ => none)
    | _, _ => none
def Src.fuel (S : Sto) : Src → Nat
  | .fix ds => ds.length
  | .cell m => ((Cell.lst? S[m]?).getD []).length
  | .zip s _ => s.fuel S
abbrev Fi := Env → Sto → R Src
def forS (s : Src) (body : D → SF) : Nat → Nat → SF
  | fuel, i, env, S => match s.next S i with
    | none => .bad
    | some none => .fl (.nx env) S
    | some (some d) => match fuel with
      | 0 => .bad
      | fuel + 1 => match body d env S with
        | .fl (.nx env') S' => forS s body fuel (i + 1) env' S'
        | .fl (.ct env') S' => forS s body fuel (i + 1) env' S'
        | .fl (.bk env') S' => .fl (.nx env') S'
        | r => r
def forL (body : D → SF) : List D → SF
  | [], env, S => .fl (.nx env) S
  | d :: ds, env, S => match body d env S with
    | .fl (.nx env') S' => forL body ds env' S'
    | .fl (.ct env') S' => forL body ds env' S'
    | .fl (.bk env') S' => .fl (.nx env') S'
    | r => r
theorem forS_fix (body : D → SF) (all : List D) : ∀ (ds : List D) (i : Nat) (env : Env) (S : Sto), all.drop i = ds → forS (.fix all) body ds.length i env S = forL body ds env S
  | [], i, env, S, h => by
    have e : all[i]? = none := by
      have := List.getElem?_drop (xs := all) (i := i) (j := 0)
      rw [h] at this
      simpa using this.symm
    unfold forS forL
    show (match some all[i]? with | none => RS.bad | some none => _ | some (some d) => _) = _
    rw [e]
  | d :: ds, i, env, S, h => by
    have e : all[i]? = some d := by
      have := List.getElem?_drop (xs := all) (i := i) (j := 0)
      rw [h] at this
      simpa using this.symm
    have h2 : all.drop (i + 1) = ds := by
      rw [← List.drop_drop, h]
      rfl
    unfold forS forL
    show (match some all[i]? with | none => RS.bad | some none => _ | some (some d) => _) = _
    rw [e]
    show (match body d env S with | .fl (.nx env') S' => _ | .fl (.ct env') S' => _ | .fl (.bk env') S' => _ | r => r) = _
    cases body d env S with
    | fl f S' => cases f with
      | nx env' => exact forS_fix body all ds (i + 1) env' S' h2
      | ct env' => exact forS_fix body all ds (i + 1) env' S' h2
      | _ => rfl
    | _ => rfl
def sForS (s : Src) (body : D → SF) : SF := fun env S => match s with
  | .fix ds => forL body ds env S
  | .cell m => forS (.cell m) body ((Cell.lst? S[m]?).getD []).length 0 env S
  | .zip s t => forS (.zip s t) body (s.fuel S) 0 env S
def sFor (fi : Fi) (g : TGf) (b : SF) : SF := fun env S => (fi env S).bindS env fun s S1 => sForS s (fun d env S => match g d env S with
  | some env' => b env' S
  | none => .bad) env S1
theorem sForS_eq (s : Src) (body : D → SF) (env : Env) (S : Sto) : ∃ n, sForS s body env S = forS s body n 0 env S := by
  cases s with
  | fix ds => exact ⟨_, (forS_fix body ds ds 0 env S rfl).symm⟩
  | cell m => exact ⟨_, rfl⟩
  | zip s t => exact ⟨_, rfl⟩
def WalksS (K : PySem.W.Frag) (pn : Pn) (w : Vw) (J : It) (s : Src) : Prop := ∀ w', Ext w w' → w'.Ok K → ∀ i, (s.next w'.S i = some none → J.stop i w'.H) ∧
  ∀ d, s.next w'.S i = some (some d) → J.go i w'.H ∧ ∀ x H', J.yld i w'.H x H' → ∃ w'', w''.H = H' ∧ Ext w' w'' ∧ w''.S = w'.S ∧ w''.Ok K ∧ Rep K pn w'' x d
def RI (K : PySem.W.Frag) (pn : Pn) (W : WX) (fi : Fi) : TI := fun σ H R => ∃ w env, w.H = H ∧ w.Ok K ∧ EnvOk K pn w σ env ∧ Post K w (fi env w.S) (fun w' s => ∀ J, WalksS K pn w' J s → R J w'.H) (WP K W σ)
def FI (X : Cx) (P : Pn) (W : WX) (tg iter : Expr) (fi : Fi) : Prop := PI X tg iter (RI X.K P W fi)
theorem piI {X : Cx} {tg e : Expr} {t t' : TI} (h : PI X tg e t) (i : ∀ σ H R, t' σ H R → t σ H R) : PI X tg e t' := ⟨fun pins s σ H R I q => h.run pins s σ H R I (i _ _ _ q)⟩
section
variable {X : Cx} {P : Pn} {W : WX} {tg iter : Expr} {fi : Fi} {g : TGf} {b : SF} {body : List Stmt} {pos : Pos}
theorem fs_for (hp : PassesOwn (model X.prog X.w) X.A X.env X.xe) (hc : X.calm = true) (hi : FI X P W tg iter fi) (hg : FG X P tg g) (hb : FSs X P W body b)
    (hs : ∀ x, foldedSetIterable iter X.env x = pure x := by intro _; rfl) : FS X P W (.For tg iter body [] pos) (sFor fi g b) := psI (ps_for hp hc hi hg hb hs) fun D σ H ⟨w, env, hH, o, en, p⟩ => by
  subst hH
  refine ⟨w, env, rfl, o, en, (Post.ofS en p).mono (fun w1 s e1 o1 p1 J walk => ?_) fun _ _ _ _ _ q => q⟩
  obtain ⟨n, hn⟩ := sForS_eq s (fun d env S => match g d env S with
    | some env' => b env' S
    | none => .bad) env w1.S
  rw [hn] at p1
  refine ⟨fun i m σ H => ∃ w' env', w'.H = H ∧ Ext w1 w' ∧ w'.Ok X.K ∧ EnvOk X.K P w' σ env' ∧ PostS X.K P w' (forS s (fun d env S => match g d env S with
    | some env' => b env' S
    | none => .bad) m i env' w'.S) D W, ⟨n, w1, env, rfl, Ext.refl w1, o1, en.to e1, p1⟩, ?_⟩
  rintro i m σ' _ ⟨w2, env2, rfl, e2, o2, en2, p2⟩
  obtain ⟨hstop, hgo⟩ := walk w2 e2 o2 i
  unfold forS at p2
  cases q : s.next w2.S i with
  | none =>
    rw [q] at p2
    exact p2.elim
  | some q1 =>
    rw [q] at p2
    cases q1 with
    | none => exact .inl ⟨hstop q, p2 w2 σ' (Ext.refl w2) rfl o2 en2⟩
    | some d =>
      obtain ⟨go, yld⟩ := hgo d q
      cases m with
      | zero => exact p2.elim
      | succ m =>
        refine .inr ⟨go, fun σ' H' => ∃ w' env', w'.H = H' ∧ Ext w1 w' ∧ w'.Ok X.K ∧ EnvOk X.K P w' σ' env' ∧ PostS X.K P w' (forS s (fun d env S => match g d env S with
          | some env' => b env' S
          | none => .bad) m (i + 1) env' w'.S) D W, fun σ' H' ⟨w', env', h1, h2, h3, h4, h5⟩ => ⟨m, Nat.lt_succ_self m, w', env', h1, h2, h3, h4, h5⟩, fun x H' hy => ?_⟩
        obtain ⟨w3, rfl, e3, s3, o3, r3⟩ := yld x H' hy
        have p2 : PostS X.K P w2 (match (match g d env2 w2.S with | some env' => b env' w2.S | none => RS.bad) with
          | .fl (.nx env') S' => forS s (fun d env S => match g d env S with
            | some env' => b env' S
            | none => .bad) m (i + 1) env' S'
          | .fl (.ct env') S' => forS s (fun d env S => match g d env S with
            | some env' => b env' S
            | none => .bad) m (i + 1) env' S'
          | .fl (.bk env') S' => .fl (.nx env') S'
          | r => r) D W := p2
        cases qg : g d env2 w2.S with
        | none =>
          rw [qg] at p2
          exact p2.elim
        | some env3 =>
          rw [qg] at p2
          refine ⟨w3, env2, d, env3, rfl, o3, en2.to e3, r3, by rw [s3]; exact qg, fun w4 σ4 e4 s4 o4 en4 => ⟨w4, env3, rfl, o4, en4, ?_⟩⟩
          have s4' : w4.S = w2.S := s4.trans s3
          rw [s4']
          have e24 := e3.trans e4
          have p2 : PostS X.K P w2 (match b env3 w2.S with
            | .fl (.nx env') S' => forS s (fun d env S => match g d env S with
              | some env' => b env' S
              | none => .bad) m (i + 1) env' S'
            | .fl (.ct env') S' => forS s (fun d env S => match g d env S with
              | some env' => b env' S
              | none => .bad) m (i + 1) env' S'
            | .fl (.bk env') S' => .fl (.nx env') S'
            | r => r) D W := p2
          cases qb : b env3 w2.S with
          | bad =>
            rw [qb] at p2
            exact p2
          | exc env C fs S =>
            rw [qb] at p2
            exact p2.to e24
          | fl f S =>
            cases f with
            | nx env5 =>
              rw [qb] at p2
              intro w5 σ5 e5 s5 o5 en5
              subst s5
              exact ⟨w5, env5, rfl, (e2.trans e24).trans e5, o5, en5, p2.to (e24.trans e5)⟩
            | ct env5 =>
              rw [qb] at p2
              intro w5 σ5 e5 s5 o5 en5
              subst s5
              exact ⟨w5, env5, rfl, (e2.trans e24).trans e5, o5, en5, p2.to (e24.trans e5)⟩
            | bk env5 =>
              rw [qb] at p2
              exact fun w5 σ5 e5 => p2 w5 σ5 (e24.trans e5)
            | rt d =>
              rw [qb] at p2
              exact p2.to e24
end
end FL
set_option maxRecDepth 100000
set_option maxHeartbeats 2000000
namespace FL
open PySem PySem.Spec PyProof.Rows L2

/-! ### a def as a function -/
abbrev Fn := List D → Sto → R D
def RS.out : RS → R D
  | .fl (.nx _) S => .ok .non S
  | .fl (.rt d) S => .ok d S
  | .exc _ C fs S => .exc C fs S
  | _ => .bad
def env0 (n : Nat) (ds : List D) : Env := ds.map some ++ List.replicate (n - ds.length) none
def runF (g : SF) (n : Nat) : Fn := fun ds S => (g (env0 n ds) S).out
def spF (K : PySem.W.Frag) (n : Nat) (f : Fn) : Sp := fun vs H Q E => ∃ w ds, w.H = H ∧ w.Ok K ∧ Reps K [] w vs ds ∧ ds.length = n ∧
  Post K w (f ds w.S) (fun w' d => ∀ v, Rep K [] w' v d → Q v w'.H) (fun w' C fs => ∀ dA, ExA K w' dA fs → E (.ref C) dA w'.H)
theorem env0_ok {K : PySem.W.Frag} {pn : Pn} {w : Vw} {N : List Str} {vs : List V} {ds : List D} (r : Reps K pn w vs ds) : EnvOk K pn w (L2.start N vs) (env0 N.length ds) := by
  unfold L2.start env0
  refine ⟨by simp [r.length], fun i d e => ?_⟩
  by_cases hi : i < ds.length
  · rw [List.getElem?_append_left (by simpa using hi), List.getElem?_map] at e
    cases q : ds[i]? with
    | none => rw [q] at e; cases e
    | some d' =>
      rw [q] at e
      cases e
      obtain ⟨v, h1, h2⟩ := r.get q
      exact ⟨v, by rw [List.getElem?_append_left (by simpa [r.length] using hi), List.getElem?_map, h1]; rfl, h2⟩
  · rw [List.getElem?_append_right (by simpa using Nat.not_lt.mp hi), List.getElem?_replicate] at e
    split at e <;> cases e
section
variable {P : Program} {w : World} {K : PySem.W.Frag} {mg : Str → Option Value} {base : Heap} {x qual : Str} {params : Arguments} {body : List Stmt} {scope : Scope} {dvs : List V} {kws : List (Str × V)} {f : Addr} {fd : FuncData}
theorem fn_okF {N ps : List Str} {k : Nat} {g : SF} (F : FunD K x qual params body scope dvs kws f fd) (S : FnScope N ps scope)
    (hbody : ∀ (cdv : Value) (A : Around) (outer : List PySem.Env) (s : Shared) (H : Hp) (E : XK), Room k (A.deeper (envOfC qual scope s.heap.objs.size f cdv)) →
      FSs (cxOf (L2.CX P w) P w K mg base N qual scope f cdv A outer s H E) [] (fun cls d _ H => E cls d H) body g) :
    FnOk P w K mg base (L2.CX P w) (k + 1) f fd ps (spF K ps.length (runF g N.length)) := by
  refine F.ok S (fun vs H Q E ⟨v, ds, _, _, r, hl, _⟩ => r.length.trans hl) fun cdv A outer s H vs Q E hr hsp => ?_
  refine ⟨_, hbody cdv A outer s H E hr, ?_⟩
  obtain ⟨v, ds, hH, o, r, hl, p⟩ := hsp
  refine ⟨v, env0 N.length ds, hH, o, env0_ok r, ?_⟩
  unfold runF at p
  cases q : g (env0 N.length ds) v.S with
  | bad => rw [q] at p; exact p.elim
  | exc env C fs S => rw [q] at p; exact fun w' σ' e s o en dA a => p w' e s o dA a
  | fl fl S => cases fl with
    | nx env => rw [q] at p; exact fun w' σ' e s o en => p w' e s o _ .non
    | rt d => rw [q] at p; exact fun w' u e s o r => p w' e s o u r
    | bk env => rw [q] at p; exact p.elim
    | ct env => rw [q] at p; exact p.elim
/-! ### a nicer function -/
mutual
def D.plain (n : Nat) : D → Bool
  | .loc m => decide (m < n)
  | .tup ds => plains n ds
  | .lst ds => plains n ds
  | .fls ds => plains n ds
  | .obj _ fs => plainf n fs
  | .exn _ fs => plainf n fs
  | _ => true
def plains (n : Nat) : List D → Bool
  | [] => true
  | d :: ds => d.plain n && plains n ds
def plainf (n : Nat) : List (Str × D) → Bool
  | [] => true
  | d :: ds => d.2.plain n && plainf n ds
end

def Cell.plain (n : Nat) : Cell → Bool
  | .lst ds => plains n ds
  | .ins _ fs => plainf n fs
/-- the view with fewer cells -/
abbrev Vw.cut (w : Vw) (S : Sto) : Vw := { w with S := S }
theorem Vw.cut_mut {v : Vw} {S : Sto} (hl : S.length ≤ v.S.length) {a : Addr} (n : ¬ v.mut a) : ¬ (v.cut S).mut a := fun q => by
  rcases q with ⟨m, h1, h2⟩ | q
  · exact n (.inl ⟨m, Nat.lt_of_lt_of_le h1 hl, h2⟩)
  · exact n (.inr q)
mutual
theorem Rep.cut {pn : Pn} {v : Vw} {S : Sto} (hl : S.length ≤ v.S.length) : ∀ {x : V} {d : D}, Rep K pn v x d → d.plain S.length = true → Rep K pn (v.cut S) x d
  | _, _, .non, _ => .non
  | _, _, .bl b, _ => .bl b
  | _, _, .int i, _ => .int i
  | _, _, .str x, _ => .str x
  | _, _, .ty n, _ => .ty n
  | _, _, .ref a, _ => .ref a
  | _, _, .tup h r, p => .tup (h.imp (fun h => ⟨h.1, Vw.cut_mut hl h.2⟩) id) (Reps.cut hl r (by unfold D.plain at p; exact p))
  | _, _, .lst h r, p => .lst ⟨h.1, Vw.cut_mut hl h.2⟩ (Reps.cut hl r (by unfold D.plain at p; exact p))
  | _, _, .fls h r, p => .fls (h.imp (fun h => ⟨h.1, Vw.cut_mut hl h.2⟩) id) (Reps.cut hl r (by unfold D.plain at p; exact p))
  | _, _, .loc (m := m) h, p => Rep.loc (w := v.cut S) (by unfold D.plain at p; exact of_decide_eq_true p)
  | _, _, .obj h n r, p => .obj h (Vw.cut_mut hl n) (RepF.cut hl r (by unfold D.plain at p; exact p))
  | _, _, .exn0 h hz hf, _ => .exn0 h hz hf
  | _, _, .exn h hz hf hd n r, p => .exn h hz hf hd (Vw.cut_mut hl n) (RepF.cut hl r (by unfold D.plain at p; exact p))
theorem Reps.cut {pn : Pn} {v : Vw} {S : Sto} (hl : S.length ≤ v.S.length) : ∀ {x : List V} {d : List D}, Reps K pn v x d → plains S.length d = true → Reps K pn (v.cut S) x d
  | _, _, .nil, _ => .nil
  | _, _, .cons h t, p => by
    unfold plains at p
    obtain ⟨p1, p2⟩ := Bool.and_eq_true_iff.mp p
    exact .cons (Rep.cut hl h p1) (Reps.cut hl t p2)
theorem RepF.cut {pn : Pn} {v : Vw} {S : Sto} (hl : S.length ≤ v.S.length) : ∀ {x : List (Str × V)} {d : List (Str × D)}, RepF K pn v x d → plainf S.length d = true → RepF K pn (v.cut S) x d
  | _, _, .nil, _ => .nil
  | _, _, .cons h t, p => by
    unfold plainf at p
    obtain ⟨p1, p2⟩ := Bool.and_eq_true_iff.mp p
    exact .cons (Rep.cut hl h p1) (RepF.cut hl t p2)
end

theorem CellOk.cut {v : Vw} {S : Sto} (hl : S.length ≤ v.S.length) {a : Addr} {c : Cell} (h : CellOk K [] v a c) (p : c.plain S.length = true) : CellOk K [] (v.cut S) a c := by
  cases c with
  | lst ds => obtain ⟨xs, h, r⟩ := h; exact ⟨xs, h, r.cut hl p⟩
  | ins C gs => obtain ⟨dx, fs, h, r⟩ := h; exact ⟨dx, fs, h, r.cut hl p⟩
mutual
theorem Rep.plain {pn : Pn} {v : Vw} : ∀ {x : V} {d : D}, Rep K pn v x d → d.plain v.S.length = true
  | _, _, .non => rfl
  | _, _, .bl b => rfl
  | _, _, .int i => rfl
  | _, _, .str x => rfl
  | _, _, .ty n => rfl
  | _, _, .ref a => rfl
  | _, _, .tup h r => by unfold D.plain; exact Reps.plain r
  | _, _, .lst h r => by unfold D.plain; exact Reps.plain r
  | _, _, .fls h r => by unfold D.plain; exact Reps.plain r
  | _, _, .loc h => by unfold D.plain; exact decide_eq_true h
  | _, _, .obj h n r => by unfold D.plain; exact RepF.plain r
  | _, _, .exn0 h hz hf => rfl
  | _, _, .exn h hz hf hd n r => by unfold D.plain; exact RepF.plain r
theorem Reps.plain {pn : Pn} {v : Vw} : ∀ {x : List V} {d : List D}, Reps K pn v x d → plains v.S.length d = true
  | _, _, .nil => rfl
  | _, _, .cons h t => by unfold plains; rw [Rep.plain h, Reps.plain t]; rfl
theorem RepF.plain {pn : Pn} {v : Vw} : ∀ {x : List (Str × V)} {d : List (Str × D)}, RepF K pn v x d → plainf v.S.length d = true
  | _, _, .nil => rfl
  | _, _, .cons h t => by unfold plainf; rw [Rep.plain h, RepF.plain t]; rfl
end

theorem CellOk.plain {v : Vw} {a : Addr} {c : Cell} (h : CellOk K [] v a c) : c.plain v.S.length = true := by
  cases c with
  | lst ds => obtain ⟨xs, h, r⟩ := h; exact r.plain
  | ins C gs => obtain ⟨dx, fs, h, r⟩ := h; exact r.plain
/-- S2 (of S1's length, the caller's) may stand for S3 -/
def Shr (S1 S2 S3 : Sto) : Prop := S2.length = S1.length ∧ S1.length ≤ S3.length ∧ ∀ (m : Nat) (c : Cell), S2[m]? = some c → S3[m]? = some c ∧ (S1[m]? = some c ∨ c.plain S1.length = true)
theorem Shr.self (S ex : Sto) : Shr S S (S ++ ex) := ⟨rfl, by simp, fun m c h => ⟨by
  have hm := (List.getElem?_eq_some_iff.mp h).1
  rw [List.getElem?_append_left hm]
  exact h, .inl h⟩⟩
theorem Shr.set (S ex : Sto) (i : Nat) (c : Cell) (p : c.plain S.length = true) : Shr S (S.set i c) (S.set i c ++ ex) := ⟨by simp, by simp, fun m c' h => ⟨by
  have hm := (List.getElem?_eq_some_iff.mp h).1
  rw [List.getElem?_append_left hm]
  exact h, by
  by_cases e : i = m
  · subst e
    have hm := (List.getElem?_eq_some_iff.mp h).1
    rw [List.getElem?_set_self (by simpa using hm)] at h
    cases h
    exact .inr p
  · rw [List.getElem?_set_ne e] at h
    exact .inl h⟩⟩
theorem Shr.view {v v' : Vw} {S2 : Sto} (o : v.Ok K) (e : Ext v v') (o' : v'.Ok K) (h : Shr v.S S2 v'.S) : Ext v (v'.cut S2) ∧ (v'.cut S2).Ok K := by
  obtain ⟨h1, h2, h3⟩ := h
  have hl : S2.length ≤ v'.S.length := by omega
  have ex : Ext v (v'.cut S2) := ⟨Nat.le_of_eq h1.symm, e.ι, fun m q1 q2 => by
    have : m < S2.length := q2
    omega, e.Z, e.keep, e.live⟩
  refine ⟨ex, fun i j hi hj q => o'.inj i j (Nat.lt_of_lt_of_le hi hl) (Nat.lt_of_lt_of_le hj hl) q, o'.hz, fun m hm => o'.hzl m (Nat.lt_of_lt_of_le hm hl), fun m c q => ?_⟩
  obtain ⟨q1, q2⟩ := h3 m c q
  have c1 := o'.cell m c q1
  refine c1.cut hl ?_
  rw [h1]
  rcases q2 with q2 | q2
  · exact (o.cell m c q2).plain
  · exact q2
/-! what a nicer function may leave out: the new cells; a new list as a value -/
mutual
inductive Fin1 (n : Nat) (S3 : Sto) : D → D → Prop
  | same {d : D} (p : d.plain n = true) : Fin1 n S3 d d
  | lst {m : Nat} {ds es : List D} (h : n ≤ m) (hc : S3[m]? = some (.lst ds)) (r : FinL n S3 ds es) : Fin1 n S3 (.loc m) (.lst es)
  | ins {m : Nat} {C : Addr} {fs : List (Str × D)} (h : n ≤ m) (hc : S3[m]? = some (.ins C fs)) (p : plainf n fs = true) : Fin1 n S3 (.loc m) (.obj C fs)
  | inT {ds es : List D} (r : FinL n S3 ds es) : Fin1 n S3 (.tup ds) (.tup es)
  | inL {ds es : List D} (r : FinL n S3 ds es) : Fin1 n S3 (.lst ds) (.lst es)
inductive FinL (n : Nat) (S3 : Sto) : List D → List D → Prop
  | nil : FinL n S3 [] []
  | cons {d e : D} {ds es : List D} (h : Fin1 n S3 d e) (t : FinL n S3 ds es) : FinL n S3 (d :: ds) (e :: es)
end

theorem FinL.same {n : Nat} {S3 : Sto} : ∀ {ds : List D}, plains n ds = true → FinL n S3 ds ds
  | [], _ => .nil
  | d :: ds, p => by
    unfold plains at p
    obtain ⟨p1, p2⟩ := Bool.and_eq_true_iff.mp p
    exact .cons (.same p1) (FinL.same p2)
/-- f's end r0 is r, told in a nicer way: r's answer stands for whatever stands for r0's -/
def Nicer (S1 : Sto) (r0 r : R D) : Prop := match r with
  | .ok d S2 => ∃ d0 S3, r0 = .ok d0 S3 ∧ Shr S1 S2 S3 ∧ Fin1 S1.length S3 d0 d
  | .exc C fs S2 => ∃ S3, r0 = .exc C fs S3 ∧ Shr S1 S2 S3 ∧ plainf S1.length fs = true
  | .bad => True
theorem cut_nm {v : Vw} {S2 : Sto} (o : v.Ok K) (hl : S2.length ≤ v.S.length) : ∀ m, S2.length ≤ m → m < v.S.length → ¬ (v.cut S2).mut (v.ι m) := fun m h1 h2 q => by
  rcases q with ⟨k, hk, e⟩ | q
  · have hk' : k < S2.length := hk
    have := o.inj k m (Nat.lt_of_lt_of_le hk' hl) h2 e
    omega
  · exact o.hzl m h2 q
mutual
theorem fin1_rep {v : Vw} {S2 : Sto} (o : v.Ok K) (hl : S2.length ≤ v.S.length) : ∀ {d0 d : D} {x : V}, Fin1 S2.length v.S d0 d → Rep K [] v x d0 → Rep K [] (v.cut S2) x d
  | _, _, _, .same p, r => r.cut hl p
  | _, _, _, .lst h hc rl, r => by
    cases r with
    | loc hm =>
      obtain ⟨xs, h1, r1⟩ := o.cell _ _ hc
      exact .lst ⟨h1, cut_nm o hl _ h hm⟩ (finL_rep o hl rl r1)
  | _, _, _, .ins h hc p, r => by
    cases r with
    | loc hm =>
      obtain ⟨dx, fs, h1, r1⟩ := o.cell _ _ hc
      exact .obj h1 (cut_nm o hl _ h hm) (r1.cut hl p)
  | _, _, _, .inT rl, r => by
    cases r with
    | tup h r1 => exact .tup (h.imp (fun h => ⟨h.1, Vw.cut_mut hl h.2⟩) id) (finL_rep o hl rl r1)
  | _, _, _, .inL rl, r => by
    cases r with
    | lst h r1 => exact .lst ⟨h.1, Vw.cut_mut hl h.2⟩ (finL_rep o hl rl r1)
theorem finL_rep {v : Vw} {S2 : Sto} (o : v.Ok K) (hl : S2.length ≤ v.S.length) : ∀ {d0 d : List D} {x : List V}, FinL S2.length v.S d0 d → Reps K [] v x d0 → Reps K [] (v.cut S2) x d
  | _, _, _, .nil, r => by
    cases r
    exact .nil
  | _, _, _, .cons h t, r => by
    cases r with
    | cons r1 r2 => exact .cons (fin1_rep o hl h r1) (finL_rep o hl t r2)
end

theorem Nicer.post {v : Vw} {r0 r : R D} {P : V → Hp → Prop} {E : XK} (o : v.Ok K) (h : Nicer v.S r0 r)
    (p : Post K v r (fun w' d => ∀ u, Rep K [] w' u d → P u w'.H) (fun w' C fs => ∀ dA, ExA K w' dA fs → E (.ref C) dA w'.H)) :
    Post K v r0 (fun w' d => ∀ u, Rep K [] w' u d → P u w'.H) (fun w' C fs => ∀ dA, ExA K w' dA fs → E (.ref C) dA w'.H) := by
  cases r with
  | bad => exact p.elim
  | ok d S2 =>
    obtain ⟨d0, S3, e, sh, fi⟩ := h
    rw [e]
    intro v' ex hs o' u ru
    subst hs
    obtain ⟨e2, o2⟩ := Shr.view o ex o' sh
    have hl : S2.length ≤ v'.S.length := by have := sh.1; have := sh.2.1; omega
    exact p (v'.cut S2) e2 rfl o2 u (fin1_rep o' hl (by rw [sh.1]; exact fi) ru)
  | exc C fs S2 =>
    obtain ⟨S3, e, sh, pf⟩ := h
    rw [e]
    intro v' ex hs o' dA a
    subst hs
    obtain ⟨e2, o2⟩ := Shr.view o ex o' sh
    have hl : S2.length ≤ v'.S.length := by have := sh.1; have := sh.2.1; omega
    refine p (v'.cut S2) e2 rfl o2 dA ?_
    rcases a with a | ⟨dd, gs, h1, h2, h3, h4⟩
    · exact .inl a
    · exact .inr ⟨dd, gs, h1, h2, Vw.cut_mut hl h3, h4.cut hl (by rw [sh.1]; exact pf)⟩
/-- the promise told by a nicer function -/
theorem _root_.L2.FnOk.nice {CX : CXT} {k n : Nat} {ps : List Str} {f0 f1 : Fn} (F : FnOk P w K mg base CX k f fd ps (spF K n f0)) (h : ∀ ds S, ds.length = n → Nicer S (f0 ds S) (f1 ds S)) : FnOk P w K mg base CX k f fd ps (spF K n f1) :=
  F.imp fun vs H Q E ⟨v, ds, hH, o, r, hl, p⟩ => ⟨v, ds, hH, o, r, hl, (h ds v.S hl).post o p⟩
end
end FL
set_option maxRecDepth 100000
set_option maxHeartbeats 2000000
namespace FL
open PySem PySem.Spec PyProof.Rows L2

/-! ### fresh lists -/
/-- a rule that makes a new list -/
def SimL (K : PySem.W.Frag) (pn : Pn) (r : List V → Hp → VK → Prop) (g : Sto → List D → Option (List D)) : Prop :=
  ∀ (w : Vw) (xs : List V) (ds es : List D) (Q : VK), w.Ok K → Reps K pn w xs ds → g w.S ds = some es → (∀ p ys, w.H p = none → Reps K pn w ys es → Q (.ref p) (upd w.H p (.lst ys))) → r xs w.H Q
def Sim2L (K : PySem.W.Frag) (pn : Pn) (r : R2) (g : Sto → D → D → Option (List D)) : Prop :=
  ∀ (w : Vw) (x y : V) (d e : D) (es : List D) (Q : VK), w.Ok K → Rep K pn w x d → Rep K pn w y e → g w.S d e = some es → (∀ p ys, w.H p = none → Reps K pn w ys es → Q (.ref p) (upd w.H p (.lst ys))) → r x y w.H Q
theorem SimL.val {K : PySem.W.Frag} {pn : Pn} {r : List V → Hp → VK → Prop} {g : Sto → List D → Option (List D)} (h : SimL K pn r g) : SimC K pn r fun S ds => (g S ds).map .lst := by
  intro w xs ds z Q o rr e q
  have e : (g w.S ds).map D.lst = some z := e
  cases hg : g w.S ds with
  | none => rw [hg] at e; cases e
  | some es =>
    rw [hg] at e
    cases e
    exact h w xs ds es Q o rr hg fun p ys hp r1 => q (w.nu p (.lst ys)) _ (Vw.nu_ext hp) rfl (o.nu hp) (Rep.newL o hp r1)
theorem Sim2L.val {K : PySem.W.Frag} {pn : Pn} {r : R2} {g : Sto → D → D → Option (List D)} (h : Sim2L K pn r g) : Sim2 K pn r fun S d e => (g S d e).map .lst := by
  intro w x y d e z Q o r1 r2 q k
  have q : (g w.S d e).map D.lst = some z := q
  cases hg : g w.S d e with
  | none => rw [hg] at q; cases q
  | some es =>
    rw [hg] at q
    cases q
    exact h w x y d e es Q o r1 r2 hg fun p ys hp r3 => k (w.nu p (.lst ys)) _ (Vw.nu_ext hp) rfl (o.nu hp) (Rep.newL o hp r3)
def fBuL (g : Sto → List D → Option (List D)) (fa : Fa) : F := fun env S => (fa env S).bind fun ds S1 => (R.of (g S1 ds) S1).bind fun es S2 => .ok (.loc S2.length) (S2 ++ [.lst es])
def fBinL (g : Sto → D → D → Option (List D)) (fa fb : F) : F := fun env S => (fa env S).bind fun d S1 => (fb env S1).bind fun e S2 => (R.of (g S2 d e) S2).bind fun es S3 => .ok (.loc S3.length) (S3 ++ [.lst es])
/-- the end of a rule that makes a new cell -/
theorem fin_loc {K : PySem.W.Frag} {pn : Pn} {w : Vw} {P : Vw → D → Prop} {W : Vw → Addr → List (Str × D) → Prop} {o' : Option (List D)} (hpn : pn = []) (o : w.Ok K)
    (p : Post K w ((R.of o' w.S).bind fun es S3 => .ok (.loc S3.length) (S3 ++ [.lst es])) P W) : ∃ es, o' = some es ∧ ∀ pt ys, w.H pt = none → Reps K pn w ys es → ∃ w', w'.H = upd w.H pt (.lst ys) ∧ P w' (.loc w.S.length) ∧ Rep K pn w' (.ref pt) (.loc w.S.length) := by
  cases o' with
  | none => exact p.elim
  | some es =>
    refine ⟨es, rfl, fun pt ys hp r1 => ?_⟩
    have e2 := Vw.al_ext (u := .lst ys) (c := .lst es) hp
    refine ⟨w.al pt (.lst ys) (.lst es), rfl, p (w.al pt (.lst ys) (.lst es)) e2 rfl (o.al hp ⟨ys, upd_same, (noexn hpn r1).to e2⟩), ?_⟩
    have z : (w.al pt (.lst ys) (.lst es)).ι w.S.length = pt := if_pos rfl
    have r := Rep.loc (K := K) (pn := pn) (w := w.al pt (.lst ys) (.lst es)) (m := w.S.length) (by simp)
    rw [z] at r
    exact r
section
variable {X : Cx} {P : Pn} {W : WX} {a b : Expr} {es : List Expr} {fa fb : F} {fs : Fa} {pos p : Pos} {x : Str} {id T : String}
/-- f(e, ..), f a built-in function -/
theorem fe_bu {r : List V → Hp → VK → Prop} {g : Sto → List D → Option D} (hc : CallR X (.builtin id) r) (hs : SimC X.K P r g) (hg : Gl X x) (hm : X.mg x = none) (hv : bootBuiltins x = some (.builtin id)) (ha : FA X P W (a :: es) fs) (hn : x ≠ "__name__" := by decide) (hdb : (x == ("__debug__" : Str)) = false := by decide)
    (he : starEach (a :: es) X.env = (false, eval a X.env) :: starEach es X.env := by rfl) (hpl : (backTo pos (starEach es X.env)).any (·.1) = false := by rfl) : FE X P W (.Call (.Name x p) (a :: es) [] pos) (fBu g fs) :=
  peI (pe_callB hc hg hm hv ha hn hdb he hpl) fun σ H Q ⟨w, env, hH, o, en, p⟩ => by
    subst hH
    refine ra_bind o en p fun w1 x d e1 o1 en1 r1 p1 => ?_
    obtain ⟨z, hz, q⟩ := p1.of
    exact hs w1 x d z Q o1 r1 hz fun w' v e' s' o' r' => q w' e' s' o' v r'
theorem fe_ty {r : List V → Hp → VK → Prop} {g : Sto → List D → Option D} (hc : CallR X (.type T) r) (hs : SimC X.K P r g) (hg : Gl X x) (hm : X.mg x = none) (hv : bootBuiltins x = some (.type T)) (ha : FA X P W (a :: es) fs) (hn : x ≠ "__name__" := by decide) (hdb : (x == ("__debug__" : Str)) = false := by decide)
    (he : starEach (a :: es) X.env = (false, eval a X.env) :: starEach es X.env := by rfl) (hpl : (backTo pos (starEach es X.env)).any (·.1) = false := by rfl) : FE X P W (.Call (.Name x p) (a :: es) [] pos) (fBu g fs) :=
  peI (pe_callTy hc hg hm hv ha hn hdb he hpl) fun σ H Q ⟨w, env, hH, o, en, p⟩ => by
    subst hH
    refine ra_bind o en p fun w1 x d e1 o1 en1 r1 p1 => ?_
    obtain ⟨z, hz, q⟩ := p1.of
    exact hs w1 x d z Q o1 r1 hz fun w' v e' s' o' r' => q w' e' s' o' v r'
theorem fe_tyL {r : List V → Hp → VK → Prop} {g : Sto → List D → Option (List D)} (hpn : P = []) (hc : CallR X (.type T) r) (hs : SimL X.K P r g) (hg : Gl X x) (hm : X.mg x = none) (hv : bootBuiltins x = some (.type T)) (ha : FA X P W (a :: es) fs) (hn : x ≠ "__name__" := by decide) (hdb : (x == ("__debug__" : Str)) = false := by decide)
    (he : starEach (a :: es) X.env = (false, eval a X.env) :: starEach es X.env := by rfl) (hpl : (backTo pos (starEach es X.env)).any (·.1) = false := by rfl) : FE X P W (.Call (.Name x p) (a :: es) [] pos) (fBuL g fs) :=
  peI (pe_callTy hc hg hm hv ha hn hdb he hpl) fun σ H Q ⟨w, env, hH, o, en, p⟩ => by
    subst hH
    refine ra_bind o en p fun w1 x d e1 o1 en1 r1 p1 => ?_
    obtain ⟨es, hz, q⟩ := fin_loc (pn := P) hpn o1 p1
    exact hs w1 x d es Q o1 r1 hz fun pt ys hp r2 => by
      obtain ⟨w', h1, h2, h3⟩ := q pt ys hp r2
      rw [← h1]
      exact h2 _ h3
theorem fe_opL {op : Operator} {r : R2} {g : Sto → D → D → Option (List D)} (hpn : P = []) (ho : OpR X (binaryOp op) r) (hg : Sim2L X.K P r g) (ha : FE X P W a fa) (hb : FE X P W b fb) : FE X P W (.BinOp a op b pos) (fBinL g fa fb) :=
  peI (pe_op ho ha hb) fun σ H Q ⟨w, env, hH, o, en, p⟩ => by
    subst hH
    refine re_bind o en p fun w1 x d e1 o1 en1 r1 p1 => re_bind o1 en1 p1 fun w2 y e e2 o2 en2 r2 p2 => ?_
    obtain ⟨es, hz, q⟩ := fin_loc (pn := P) hpn o2 p2
    exact hg w2 x y d e es Q o2 (r1.to e2) r2 hz fun pt ys hp r3 => by
      obtain ⟨w', h1, h2, h3⟩ := q pt ys hp r3
      rw [← h1]
      exact h2 _ h3
end
/-! ### numbers -/
section
variable {X : Cx} {K : PySem.W.Frag} {P : Pn}
theorem Sim2.or {r r' : R2} {g g' : Sto → D → D → Option D} (h : Sim2 K P r g) (h' : Sim2 K P r' g') : Sim2 K P (fun x y H Q => r x y H Q ∨ r' x y H Q) fun S d e => match g S d e with
    | some z => some z
    | none => g' S d e := by
  intro w x y d e z Q o r1 r2 q k
  have q : (match g w.S d e with
    | some z => some z
    | none => g' w.S d e) = some z := q
  cases hg : g w.S d e with
  | some z' =>
    rw [hg] at q
    cases q
    exact .inl (h w x y d e _ Q o r1 r2 hg k)
  | none =>
    rw [hg] at q
    exact .inr (h' w x y d e z Q o r1 r2 q k)
def gI2 (c : Int → Int → Bool) (f : Int → Int → D) : Sto → D → D → Option D := fun _ d e => match d, e with
  | .int i, .int j => if c i j = true then some (f i j) else none
  | _, _ => none
theorem sim_rI {C : Int → Int → Prop} {c : Int → Int → Bool} {f : Int → Int → V} {fd : Int → Int → D} (hC : ∀ i j, c i j = true → C i j) (hf : ∀ w i j, Rep K P w (f i j) (fd i j)) : Sim2 K P (rI C f) (gI2 c fd) := by
  intro w x y d e z Q o r1 r2 q k
  cases r1 with
  | int i =>
    cases r2 with
    | int j =>
      have q' : (if c i j = true then some (fd i j) else none) = some z := q
      by_cases h : c i j = true
      · rw [if_pos h] at q'
        cases q'
        exact ⟨i, j, rfl, rfl, hC i j h, k w _ (Ext.refl w) rfl o (hf w i j)⟩
      · rw [if_neg h] at q'
        cases q'
    | _ => cases q
  | _ => cases q
theorem sim_rI0 {f : Int → Int → V} {fd : Int → Int → D} (hf : ∀ w i j, Rep K P w (f i j) (fd i j)) : Sim2 K P (rI0 f) (gI2 (fun _ _ => true) fd) := by
  intro w x y d e z Q o r1 r2 q k
  cases r1 with
  | int i =>
    cases r2 with
    | int j =>
      cases q
      exact ⟨i, j, rfl, rfl, k w _ (Ext.refl w) rfl o (hf w i j)⟩
    | _ => cases q
  | _ => cases q
def gStr2 : Sto → D → D → Option D := fun _ d e => match d, e with
  | .str i, .str j => if i.length + j.length ≤ sizeLine then some (.str (i ++ j)) else none
  | _, _ => none
theorem sim_addS : Sim2 K P (fun x y H Q => ∃ i j, x = .str i ∧ y = .str j ∧ i.length + j.length ≤ sizeLine ∧ Q (.str (i ++ j)) H) gStr2 := by
  intro w x y d e z Q o r1 r2 q k
  cases r1 with
  | str i =>
    cases r2 with
    | str j =>
      have q' : (if i.length + j.length ≤ sizeLine then some (D.str (i ++ j)) else none) = some z := q
      by_cases h : i.length + j.length ≤ sizeLine
      · rw [if_pos h] at q'
        cases q'
        exact ⟨i, j, rfl, rfl, h, k w _ (Ext.refl w) rfl o (.str _)⟩
      · rw [if_neg h] at q'
        cases q'
    | _ => cases q
  | _ => cases q
def gCat : Sto → D → D → Option (List D) := fun S d e => match lstOf S d, lstOf S e with
  | some xs, some ys => if xs.length + ys.length ≤ sizeLine then some (xs ++ ys) else none
  | _, _ => none
theorem sim_cat : Sim2L K P rCat gCat := by
  intro w x y d e es Q o r1 r2 q k
  unfold gCat at q
  cases h1 : lstOf w.S d with
  | none => rw [h1] at q; cases q
  | some xs =>
    cases h2 : lstOf w.S e with
    | none => rw [h1, h2] at q; cases q
    | some ys =>
      rw [h1, h2] at q
      have q' : (if xs.length + ys.length ≤ sizeLine then some (xs ++ ys) else none) = some es := q
      by_cases h : xs.length + ys.length ≤ sizeLine
      · rw [if_pos h] at q'
        cases q'
        obtain ⟨a, vs, e1, g1, s1⟩ := lst_of o r1 h1
        obtain ⟨b, us, e2, g2, s2⟩ := lst_of o r2 h2
        exact ⟨a, b, vs, us, e1, e2, g1, g2, by rw [s1.length, s2.length]; exact h, fun p hp => k p _ hp (s1.append s2)⟩
      · rw [if_neg h] at q'
        cases q'
def gAdd : Sto → D → D → Option D := fun S d e => match gI2 (fun _ _ => true) (fun i j => .int (i + j)) S d e with
  | some z => some z
  | none => match gStr2 S d e with
    | some z => some z
    | none => (gCat S d e).map .lst
theorem op_addA : OpR X (binaryOp .Add) (fun x y H Q => rI0 (fun i j => .int (i + j)) x y H Q ∨ ((∃ i j, x = .str i ∧ y = .str j ∧ i.length + j.length ≤ sizeLine ∧ Q (.str (i ++ j)) H) ∨ rCat x y H Q)) := op_add.or (op_add_str.or op_cat)
theorem sim_add : Sim2 K P (fun x y H Q => rI0 (fun i j => .int (i + j)) x y H Q ∨ ((∃ i j, x = .str i ∧ y = .str j ∧ i.length + j.length ≤ sizeLine ∧ Q (.str (i ++ j)) H) ∨ rCat x y H Q)) gAdd :=
  (sim_rI0 fun _ _ _ => .int _).or (sim_addS.or sim_cat.val)
def gSub := gI2 (fun _ _ => true) fun i j => .int (i - j)
def gMul := gI2 (fun i j => decide ((-(2 ^ 64) < i ∧ i < 2 ^ 64) ∨ (-(2 ^ 64) < j ∧ j < 2 ^ 64))) fun i j => .int (i * j)
def gMod := gI2 (fun _ j => decide (0 < j)) fun i j => .int (i % j)
def gDiv := gI2 (fun _ j => decide (0 < j ∧ j < 1073741824)) fun i j => .int (i / j)
def gLt := gI2 (fun _ _ => true) fun i j => .bl (decide (i < j))
def gLe := gI2 (fun _ _ => true) fun i j => .bl (decide (i ≤ j))
def gGt := gI2 (fun _ _ => true) fun i j => .bl (decide (j < i))
def gGe := gI2 (fun _ _ => true) fun i j => .bl (decide (j ≤ i))
theorem sim_sub : Sim2 K P (rI0 fun i j => .int (i - j)) gSub := sim_rI0 fun _ _ _ => .int _
theorem sim_mul : Sim2 K P (rI CMul fun i j => .int (i * j)) gMul := sim_rI (fun i j h => show (-(2 ^ 64) < i ∧ i < 2 ^ 64) ∨ (-(2 ^ 64) < j ∧ j < 2 ^ 64) from of_decide_eq_true h) fun _ _ _ => .int _
theorem sim_mod : Sim2 K P (rI (fun _ j => 0 < j) fun i j => .int (i % j)) gMod := sim_rI (fun _ _ h => of_decide_eq_true h) fun _ _ _ => .int _
theorem sim_div : Sim2 K P (rI CDiv fun i j => .int (i / j)) gDiv := sim_rI (fun i j h => show 0 < j ∧ j < 1073741824 from of_decide_eq_true h) fun _ _ _ => .int _
theorem sim_lt : Sim2 K P (rI0 fun i j => .bl (decide (i < j))) gLt := sim_rI0 fun _ _ _ => .bl _
theorem sim_gt : Sim2 K P (rI0 fun i j => .bl (decide (j < i))) gGt := sim_rI0 fun _ _ _ => .bl _
theorem sim_ge : Sim2 K P (rI0 fun i j => .bl (decide (j ≤ i))) gGe := sim_rI0 fun _ _ _ => .bl _
def gNeg : Sto → D → Option D := fun _ d => match d with
  | .int i => some (.int (-i))
  | _ => none
theorem sim_neg : Sim1 K P (rU fun i => .int (-i)) gNeg := by
  intro w x d z Q o r q k
  cases r with
  | int i =>
    cases q
    exact ⟨i, rfl, k w _ (Ext.refl w) rfl o (.int _)⟩
  | _ => cases q
/-! ### == -/
mutual
/-- without cells -/
def D.py0 : D → Option PyData
  | .non => some .none
  | .bl b => some (.bool b)
  | .int i => some (.int i)
  | .str x => some (.str x)
  | .tup ds => (pys0 ds).map .tuple
  | .lst ds => (pys0 ds).map .list
  | .fls ds => (pys0 ds).map .list
  | _ => none
def pys0 : List D → Option (List PyData)
  | [] => some []
  | d :: ds => match d.py0, pys0 ds with
    | some a, some b => some (a :: b)
    | _, _ => none
end

mutual
def D.py (S : Sto) : D → Option PyData
  | .non => some .none
  | .bl b => some (.bool b)
  | .int i => some (.int i)
  | .str x => some (.str x)
  | .tup ds => (pys S ds).map .tuple
  | .lst ds => (pys S ds).map .list
  | .fls ds => (pys S ds).map .list
  | .loc m => ((Cell.lst? S[m]?).bind pys0).map .list
  | _ => none
def pys (S : Sto) : List D → Option (List PyData)
  | [] => some []
  | d :: ds => match d.py S, pys S ds with
    | some a, some b => some (a :: b)
    | _, _ => none
end

mutual
theorem py0_ok {w : Vw} : ∀ {v : V} {d : D} {q : PyData}, Rep K P w v d → d.py0 = some q → Dp K w.H v q
  | _, _, _, .non, e => by cases e; exact .non
  | _, _, _, .bl b, e => by cases e; exact .bl b
  | _, _, _, .int i, e => by cases e; exact .int i
  | _, _, _, .str x, e => by cases e; exact .str x
  | _, _, _, .ty n, e => by cases e
  | _, _, _, .ref a, e => by cases e
  | _, .tup ds, q, .tup h r, e => by
    have e : (pys0 ds).map PyData.tuple = some q := by unfold D.py0 at e; exact e
    cases g : pys0 ds with
    | none => rw [g] at e; cases e
    | some qs => rw [g] at e; cases e; exact .tup h.sq (pys0_ok r g)
  | _, .lst ds, q, .lst h r, e => by
    have e : (pys0 ds).map PyData.list = some q := by unfold D.py0 at e; exact e
    cases g : pys0 ds with
    | none => rw [g] at e; cases e
    | some qs => rw [g] at e; cases e; exact .lst h.sq (pys0_ok r g)
  | _, .fls ds, q, .fls h r, e => by
    have e : (pys0 ds).map PyData.list = some q := by unfold D.py0 at e; exact e
    cases g : pys0 ds with
    | none => rw [g] at e; cases e
    | some qs => rw [g] at e; cases e; exact .lst h.sq (pys0_ok r g)
  | _, _, _, .loc h, e => by cases e
  | _, _, _, .obj h n r, e => by cases e
  | _, _, _, .exn0 h hz hf, e => by cases e
  | _, _, _, .exn h hz hf hd n r, e => by cases e
theorem pys0_ok {w : Vw} : ∀ {v : List V} {d : List D} {q : List PyData}, Reps K P w v d → pys0 d = some q → DpAll K w.H v q
  | _, _, _, .nil, e => by cases e; exact .nil
  | _, d :: ds, q, .cons h t, e => by
    have e : (match d.py0, pys0 ds with
      | some a, some b => some (a :: b)
      | _, _ => none) = some q := by unfold pys0 at e; exact e
    cases g1 : d.py0 with
    | none => rw [g1] at e; cases e
    | some a =>
      cases g2 : pys0 ds with
      | none => rw [g1, g2] at e; cases e
      | some b => rw [g1, g2] at e; cases e; exact .cons (py0_ok h g1) (pys0_ok t g2)
end

mutual
theorem py_ok {w : Vw} (o : w.Ok K) : ∀ {v : V} {d : D} {q : PyData}, Rep K P w v d → d.py w.S = some q → Dp K w.H v q
  | _, _, _, .non, e => by cases e; exact .non
  | _, _, _, .bl b, e => by cases e; exact .bl b
  | _, _, _, .int i, e => by cases e; exact .int i
  | _, _, _, .str x, e => by cases e; exact .str x
  | _, _, _, .ty n, e => by cases e
  | _, _, _, .ref a, e => by cases e
  | _, .tup ds, q, .tup h r, e => by
    have e : (pys w.S ds).map PyData.tuple = some q := by unfold D.py at e; exact e
    cases g : pys w.S ds with
    | none => rw [g] at e; cases e
    | some qs => rw [g] at e; cases e; exact .tup h.sq (pys_ok o r g)
  | _, .lst ds, q, .lst h r, e => by
    have e : (pys w.S ds).map PyData.list = some q := by unfold D.py at e; exact e
    cases g : pys w.S ds with
    | none => rw [g] at e; cases e
    | some qs => rw [g] at e; cases e; exact .lst h.sq (pys_ok o r g)
  | _, .fls ds, q, .fls h r, e => by
    have e : (pys w.S ds).map PyData.list = some q := by unfold D.py at e; exact e
    cases g : pys w.S ds with
    | none => rw [g] at e; cases e
    | some qs => rw [g] at e; cases e; exact .lst h.sq (pys_ok o r g)
  | _, .loc m, q, .loc h, e => by
    have e : ((Cell.lst? w.S[m]?).bind pys0).map PyData.list = some q := by unfold D.py at e; exact e
    cases g : Cell.lst? w.S[m]? with
    | none => rw [g] at e; cases e
    | some ds =>
      rw [g] at e
      have e : (pys0 ds).map PyData.list = some q := e
      cases g2 : pys0 ds with
      | none => rw [g2] at e; cases e
      | some qs =>
        rw [g2] at e
        cases e
        obtain ⟨xs, h1, r1⟩ := o.cell m _ (lst?_some g)
        exact .lst (SqL.of h1) (pys0_ok (P := []) r1 g2)
  | _, _, _, .obj h n r, e => by cases e
  | _, _, _, .exn0 h hz hf, e => by cases e
  | _, _, _, .exn h hz hf hd n r, e => by cases e
theorem pys_ok {w : Vw} (o : w.Ok K) : ∀ {v : List V} {d : List D} {q : List PyData}, Reps K P w v d → pys w.S d = some q → DpAll K w.H v q
  | _, _, _, .nil, e => by cases e; exact .nil
  | _, d :: ds, q, .cons h t, e => by
    have e : (match d.py w.S, pys w.S ds with
      | some a, some b => some (a :: b)
      | _, _ => none) = some q := by unfold pys at e; exact e
    cases g1 : d.py w.S with
    | none => rw [g1] at e; cases e
    | some a =>
      cases g2 : pys w.S ds with
      | none => rw [g1, g2] at e; cases e
      | some b => rw [g1, g2] at e; cases e; exact .cons (py_ok o h g1) (pys_ok o t g2)
end

def gEq (neg : Bool) : Sto → D → D → Option D := fun S d e => match d.py S, e.py S with
  | some a, some b => if (SeqAt.shaped a && SeqAt.shaped b) = true then some (.bl (if neg then !PyData.eqv a b else PyData.eqv a b)) else none
  | _, _ => none
theorem sim_eqG {neg : Bool} {r : R2} (hr : ∀ x y H Q, (∃ d e, Dp K H x d ∧ Dp K H y e ∧ SeqAt.shaped d = true ∧ SeqAt.shaped e = true ∧ Q (.bl (if neg then !PyData.eqv d e else PyData.eqv d e)) H) → r x y H Q) : Sim2 K P r (gEq neg) := by
  intro w x y d e z Q o r1 r2 q k
  unfold gEq at q
  cases h1 : d.py w.S with
  | none => rw [h1] at q; cases q
  | some a =>
    cases h2 : e.py w.S with
    | none => rw [h1, h2] at q; cases q
    | some b =>
      rw [h1, h2] at q
      have q' : (if (SeqAt.shaped a && SeqAt.shaped b) = true then some (D.bl (if neg then !PyData.eqv a b else PyData.eqv a b)) else none) = some z := q
      by_cases h : (SeqAt.shaped a && SeqAt.shaped b) = true
      · rw [if_pos h] at q'
        cases q'
        obtain ⟨s1, s2⟩ := Bool.and_eq_true_iff.mp h
        exact hr _ _ _ _ ⟨a, b, py_ok o r1 h1, py_ok o r2 h2, s1, s2, k w _ (Ext.refl w) rfl o (.bl _)⟩
      · rw [if_neg h] at q'
        cases q'
theorem sim_eq : Sim2 K P (rEqD K) (gEq false) := sim_eqG fun _ _ _ _ h => h
theorem sim_ne : Sim2 K P (rNeD K) (gEq true) := sim_eqG fun _ _ _ _ h => h
/-! ### is -/
def D.isN : D → Bool
  | .non => true
  | _ => false
theorem isN_ok {w : Vw} {v : V} {d : D} (r : Rep K P w v d) : decide (v = .non) = d.isN := by
  cases r <;> rfl
def gIsN (neg : Bool) : Sto → D → D → Option D := fun _ d e => match e with
  | .non => some (.bl (if neg then !d.isN else d.isN))
  | _ => none
theorem sim_isN : Sim2 K P (fun x y H Q => y = .non ∧ Q (.bl (decide (x = .non))) H) (gIsN false) := by
  intro w x y d e z Q o r1 r2 q k
  cases r2 with
  | non =>
    cases q
    exact ⟨rfl, by rw [isN_ok r1]; exact k w _ (Ext.refl w) rfl o (.bl _)⟩
  | _ => cases q
def gIsB (neg : Bool) : Sto → D → D → Option D := fun _ d e => match d, e with
  | .bl a, .bl b => some (.bl (if neg then !decide (a = b) else decide (a = b)))
  | _, _ => none
theorem sim_isB : Sim2 K P (fun x y H Q => ∃ a b, x = .bl a ∧ y = .bl b ∧ Q (.bl (decide (a = b))) H) (gIsB false) := by
  intro w x y d e z Q o r1 r2 q k
  cases r1 with
  | bl a =>
    cases r2 with
    | bl b =>
      cases q
      exact ⟨a, b, rfl, rfl, k w _ (Ext.refl w) rfl o (.bl _)⟩
    | _ => cases q
  | _ => cases q
/-! ### built-ins -/
def dlen (S : Sto) : D → Option Nat
  | .str x => if x.length ≤ sizeLine then some x.length else none
  | d => (seqOf S d).map List.length
def g1 (f : Sto → D → Option D) : Sto → List D → Option D := fun S ds => match ds with
  | [d] => f S d
  | _ => none
def gLen : Sto → List D → Option D := g1 fun S d => (dlen S d).map fun n : Nat => D.int n
theorem sim1 {r : List V → Hp → VK → Prop} {f : Sto → D → Option D} (h : ∀ (w : Vw) (x : V) (d z : D) (Q : VK), w.Ok K → Rep K P w x d → f w.S d = some z → (∀ w' v, Ext w w' → w'.S = w.S → w'.Ok K → Rep K P w' v z → Q v w'.H) → r [x] w.H Q) : SimC K P r (g1 f) := by
  intro w xs ds z Q o rr e q
  cases rr with
  | nil => cases e
  | cons r1 rr =>
    cases rr with
    | nil => exact h w _ _ z Q o r1 e q
    | cons _ _ => cases e
theorem sim_len : SimC K P (fun xs H Q => ∃ x n, xs = [x] ∧ LenV K x H n ∧ Q (.int n) H) gLen := sim1 fun w x d z Q o r e q => by
  by_cases hs : ∃ y, d = .str y
  · obtain ⟨y, rfl⟩ := hs
    cases r with
    | str =>
      have e' : (if y.length ≤ sizeLine then some y.length else none).map (fun n : Nat => D.int n) = some z := e
      by_cases h : y.length ≤ sizeLine
      · rw [if_pos h] at e'
        cases e'
        exact ⟨_, y.length, rfl, ⟨h, rfl⟩, q w _ (Ext.refl w) rfl o (.int _)⟩
      · rw [if_neg h] at e'
        cases e'
  · have e' : ((seqOf w.S d).map List.length).map (fun n : Nat => D.int n) = some z := by
      unfold dlen at e
      split at e
      · exact absurd ⟨_, rfl⟩ hs
      · exact e
    cases g : seqOf w.S d with
    | none => rw [g] at e'; cases e'
    | some ds =>
      rw [g] at e'
      cases e'
      obtain ⟨a, xs, rfl, h, rr⟩ := seq_of o r g
      refine ⟨_, ds.length, rfl, ?_, q w _ (Ext.refl w) rfl o (.int _)⟩
      rcases h with h | h
      · exact .inl ⟨xs, h, rr.length.symm⟩
      · exact .inr ⟨xs, h, rr.length.symm⟩
def gAbs : Sto → List D → Option D := g1 fun _ d => match d with
  | .int i => some (.int (if i < 0 then -i else i))
  | _ => none
theorem sim_abs : SimC K P (fun xs H Q => ∃ i, xs = [.int i] ∧ Q (.int (if i < 0 then -i else i)) H) gAbs := sim1 fun w x d z Q o r e q => by
  cases r with
  | int i =>
    cases e
    exact ⟨i, rfl, q w _ (Ext.refl w) rfl o (.int _)⟩
  | _ => cases e
def gInt : Sto → List D → Option D := g1 fun _ d => match d with
  | .int i => some (.int i)
  | .bl k => some (.int (if k then 1 else 0))
  | _ => none
theorem sim_int : SimC K P (fun xs H Q => (∃ i, xs = [.int i] ∧ Q (.int i) H) ∨ ∃ k, xs = [.bl k] ∧ Q (.int (if k then 1 else 0)) H) gInt := sim1 fun w x d z Q o r e q => by
  cases r with
  | int i =>
    cases e
    exact .inl ⟨i, rfl, q w _ (Ext.refl w) rfl o (.int _)⟩
  | bl k =>
    cases e
    exact .inr ⟨k, rfl, q w _ (Ext.refl w) rfl o (.int _)⟩
  | _ => cases e
/-- list(x): any list or tuple -/
def gList : Sto → List D → Option (List D) := fun S ds => match ds with
  | [d] => seqOf S d
  | _ => none
theorem sim_list : SimL K P (fun xs H Q => ∃ p ys, xs = [.ref p] ∧ (SqL K H p ys ∨ SqT K H p ys) ∧ ∀ l, H l = none → Q (.ref l) (upd H l (.lst ys))) gList := by
  intro w xs ds es Q o rr e q
  cases rr with
  | nil => cases e
  | cons r1 rr =>
    cases rr with
    | nil =>
      obtain ⟨a, ys, rfl, h, r2⟩ := seq_of o r1 e
      exact ⟨a, ys, rfl, h, fun p hp => q p ys hp r2⟩
    | cons _ _ => cases e
/-- tuple(x): any list or tuple -/
def gTuple : Sto → List D → Option D := g1 fun S d => (seqOf S d).map .tup
abbrev rTupZ (K : PySem.W.Frag) : List V → Hp → VK → Prop := fun xs H Q => ∃ p ys, xs = [.ref p] ∧ ((SqL K H p ys ∧ ∀ l (ob : Obj), H l = none → ob.dict = none → Q (.ref l) (upd H l (.frz ob (.tup ys)))) ∨ (SqT K H p ys ∧ Q (.ref p) H))
theorem call_tupleZ {X : Cx} : CallR X (.type "tuple") (rTupZ X.K) := by
  intro pins s σ H xs us Q I r h
  obtain ⟨p, ys, rfl, h⟩ := h
  obtain ⟨u, rfl, rx⟩ := vals1 r
  cases rx
  rcases h with ⟨hq, q⟩ | ⟨hq, q⟩
  · obtain ⟨its, r', pl, hz⟩ := I.list hq
    have hlen := r'.length
    refine call_tuple_list pl.isList (fun h' kp => ?_) (by simp only [List.size_toArray] <;> omega)
    have I1 : Inv X pins σ H { s with heap := h' } := I.kept (t' := s.toks) kp
    have I2 : Inv X pins σ (upd H h'.objs.size (.frz { cls := .type "tuple", data := .seq its.toArray } (.tup ys))) { s with heap := h'.push { cls := .type "tuple", data := .seq its.toArray } } :=
      I1.laid (t' := s.toks) (fun b o e => Heap.get?_push_of_some _ e) (Nat.le_refl _) ⟨Heap.get?_push_size _ rfl, (show ObjOk X.prog X.w _ _ _ (.tup ys) from ⟨hz, its, r', IsTup.new _ _⟩)⟩
    exact ⟨.ref h'.objs.size, _, I2, rfl, q _ _ (I1.hok.fresh (Nat.le_refl _)) rfl⟩
  · obtain ⟨its, r', pl, hz⟩ := I.tuple hq
    exact call_tuple_same pl ⟨.ref p, H, I, rfl, q⟩
theorem sim_tuple : SimC K P (rTupZ K) gTuple := sim1 fun w x d z Q o r e q => by
  by_cases ht : ∃ es, d = .tup es
  · obtain ⟨es, rfl⟩ := ht
    have ez : some (D.tup es) = some z := e
    cases ez
    obtain ⟨a, xs, rfl, h2, h3⟩ := tup_of r
    exact ⟨a, xs, rfl, .inr ⟨h2, q w _ (Ext.refl w) rfl o r⟩⟩
  · have e' : (lisOf w.S d).map D.tup = some z := by
      have e : (seqOf w.S d).map D.tup = some z := e
      unfold seqOf at e
      split at e
      · exact absurd ⟨_, rfl⟩ ht
      · exact e
    cases g : lisOf w.S d with
    | none => rw [g] at e'; cases e'
    | some ds =>
      rw [g] at e'
      cases e'
      obtain ⟨a, xs, rfl, h2, h3⟩ := lis_of o r g
      exact ⟨a, xs, rfl, .inl ⟨h2, fun l ob hl hd => q (w.nu l (.frz ob (.tup xs))) _ (Vw.nu_ext hl) rfl (o.nu hl) (Rep.newT hd o hl h3)⟩⟩
def gI2C (f : Int → Int → Int) : Sto → List D → Option D := fun _ ds => match ds with
  | [.int i, .int j] => some (.int (f i j))
  | _ => none
theorem sim_i2 {f : Int → Int → Int} : SimC K P (fun xs H Q => ∃ i j, xs = [.int i, .int j] ∧ Q (.int (f i j)) H) (gI2C f) := by
  intro w xs ds z Q o rr e q
  cases rr with
  | nil => cases e
  | cons r1 rr =>
    cases rr with
    | nil => cases r1 <;> cases e
    | cons r2 rr =>
      cases rr with
      | nil =>
        cases r1 with
        | int i =>
          cases r2 with
          | int j =>
            cases e
            exact ⟨i, j, rfl, q w _ (Ext.refl w) rfl o (.int _)⟩
          | _ => cases e
        | _ => cases e
      | cons _ _ => cases r1 <;> cases r2 <;> cases e
def max2 (i j : Int) : Int := if j > i then j else i
def min2 (i j : Int) : Int := if j < i then j else i
/-- the ints of a list -/
def intsOf : List D → Option (List Int)
  | [] => some []
  | .int i :: ds => (intsOf ds).map (i :: ·)
  | _ => none
theorem intsOf_map : ∀ ns : List Int, intsOf (ns.map D.int) = some ns
  | [] => rfl
  | n :: ns => by
    show (intsOf (ns.map D.int)).map (n :: ·) = _
    rw [intsOf_map ns]
    rfl
/-- the list's ints (a list, not a tuple) -/
def lintsOf (S : Sto) (d : D) : Option (List Int) := (lisOf S d).bind intsOf
def gSum : Sto → List D → Option D := g1 fun S d => (lintsOf S d).map fun ns => .int ns.sum
/-- the greatest, the least of a list -/
def maxI : List Int → Option Int
  | [] => none
  | n :: ns => some (ns.foldl max n)
def minI : List Int → Option Int
  | [] => none
  | n :: ns => some (ns.foldl min n)
theorem foldl_max_mem : ∀ (ns : List Int) (n : Int), ns.foldl max n ∈ n :: ns
  | [], n => by simp
  | m :: ns, n => by
    have h := foldl_max_mem ns (max n m)
    show ns.foldl max (max n m) ∈ _
    rcases List.mem_cons.mp h with e | h
    · rw [e]
      by_cases h : n ≤ m
      · rw [Int.max_eq_right h]
        simp
      · rw [Int.max_eq_left (by omega)]
        simp
    · exact List.mem_cons_of_mem _ (List.mem_cons_of_mem _ h)
theorem foldl_max_le : ∀ (ns : List Int) (n : Int), ∀ y ∈ n :: ns, y ≤ ns.foldl max n
  | [], n, y, h => by
    rcases List.mem_cons.mp h with e | h
    · rw [e]
      exact Int.le_refl _
    · cases h
  | m :: ns, n, y, h => by
    show y ≤ ns.foldl max (max n m)
    rcases List.mem_cons.mp h with e | h
    · rw [e]
      exact Int.le_trans (Int.le_max_left n m) (foldl_max_le ns (max n m) _ List.mem_cons_self)
    · rcases List.mem_cons.mp h with e | h
      · rw [e]
        exact Int.le_trans (Int.le_max_right n m) (foldl_max_le ns (max n m) _ List.mem_cons_self)
      · exact foldl_max_le ns (max n m) y (List.mem_cons_of_mem _ h)
theorem maxI_eq {ns : List Int} {m : Int} (h1 : m ∈ ns) (h2 : ∀ y ∈ ns, y ≤ m) : maxI ns = some m := by
  cases ns with
  | nil => cases h1
  | cons n ns =>
    have a := foldl_max_le ns n m h1
    have b := h2 _ (foldl_max_mem ns n)
    exact congrArg some (by omega)
def gMax1 : Sto → List D → Option D := g1 fun S d => ((lintsOf S d).bind maxI).map .int
def gMin1 : Sto → List D → Option D := g1 fun S d => ((lintsOf S d).bind minI).map .int
end
end FL
set_option maxRecDepth 100000
set_option maxHeartbeats 2000000
namespace FL
open PySem PySem.Spec PyProof.Rows L2
/-! ### rules of our own: list.count of flat items; max, min, sum of a tuple -/
section
variable {X : Cx}
def rCntF (K : PySem.W.Frag) : V → List V → Hp → VK → Prop := fun x xs H Q => ∃ (p : Addr) (ys : List V) (k : V), x = .ref p ∧ xs = [k] ∧ SqL K H p ys ∧ flatV k = true ∧ ys.all flatV = true ∧ Q (.int (ys.countP (fun y => eqV y k) : Nat)) H
end
section
variable {X : Cx} {K : PySem.W.Frag} {P : Pn} {W : WX} {a b : Expr} {es : List Expr} {fa fb : F} {fs : Fa} {pos p : Pos}
/-! ### an item, a slice -/
theorem ixAt {w : Vw} {xs : List V} {ds : List D} {i : Int} {d : D} (r : Reps K P w xs ds) (e : atI ds i = some d) : ∃ v, atI xs i = some v ∧ Rep K P w v d := by
  unfold atI at e ⊢
  rw [r.length]
  cases g : ixN ds.length i with
  | none => rw [g] at e; cases e
  | some j =>
    rw [g] at e
    exact r.get e
def D.str? : D → Option Str
  | .str z => some z
  | _ => none
def gIx : Sto → D → D → Option D := fun S d e => match e with
  | .int i => (match d.str? with
    | some z => if z.length ≤ sizeLine then (atI z.cps.toList i).map fun c => .str ⟨#[c]⟩ else none
    | none => (seqOf S d).bind fun ds => atI ds i)
  | _ => none
theorem sim_ix : Sim2 K P (rIx K) gIx := by
  intro w x y d e z Q o r1 r2 q k
  cases r2 with
  | int i =>
    have q : (match d.str? with
      | some z => if z.length ≤ sizeLine then (atI z.cps.toList i).map fun c => D.str ⟨#[c]⟩ else none
      | none => (seqOf w.S d).bind fun ds => atI ds i) = some z := q
    cases g : d.str? with
    | some y =>
      rw [g] at q
      have hd : d = .str y := by
        cases d with
        | str z => cases g; rfl
        | _ => cases g
      subst hd
      cases r1 with
      | str =>
        have q' : (if y.length ≤ sizeLine then (atI y.cps.toList i).map fun c => D.str ⟨#[c]⟩ else none) = some z := q
        by_cases h : y.length ≤ sizeLine
        · rw [if_pos h] at q'
          cases g : atI y.cps.toList i with
          | none => rw [g] at q'; cases q'
          | some c =>
            rw [g] at q'
            cases q'
            exact .inr (.inr ⟨y, i, c, rfl, rfl, h, g, k w _ (Ext.refl w) rfl o (.str _)⟩)
        · rw [if_neg h] at q'
          cases q'
    | none =>
      rw [g] at q
      have q' : ((seqOf w.S d).bind fun ds => atI ds i) = some z := q
      cases g : seqOf w.S d with
      | none => rw [g] at q'; cases q'
      | some ds =>
        rw [g] at q'
        obtain ⟨a, xs, rfl, h, rr⟩ := seq_of o r1 g
        obtain ⟨v, h1, h2⟩ := ixAt rr q'
        rcases h with h | h
        · exact .inl ⟨a, xs, i, v, rfl, rfl, h, h1, k w _ (Ext.refl w) rfl o h2⟩
        · exact .inr (.inl ⟨a, xs, i, v, rfl, rfl, h, h1, k w _ (Ext.refl w) rfl o h2⟩)
  | _ => cases q
theorem fe_ix (ha : FE X P W a fa) (hb : FE X P W b fb) (hs : PlainIx b := by exact fun _ _ => rfl) : FE X P W (.Subscript a b pos) (fBin gIx fa fb) :=
  peI (pe_ix ix_seq ha hb hs) fun σ H Q ⟨w, env, hH, o, en, p⟩ => by
    subst hH
    refine re_bind o en p fun w1 x d e1 o1 en1 r1 p1 => re_bind o1 en1 p1 fun w2 y e e2 o2 en2 r2 p2 => ?_
    obtain ⟨z, hz, q⟩ := p2.of
    exact sim_ix w2 x y d e z Q o2 (r1.to e2) r2 hz fun w' v e' s' o' r' => q w' e' s' o' v r'
/-- the parts of a slice -/
abbrev Fo := Env → Sto → R (Option Int)
def RO (K : PySem.W.Frag) (pn : Pn) (W : WX) (f : Fo) : TO := fun σ H Q => ∃ w env, w.H = H ∧ w.Ok K ∧ EnvOk K pn w σ env ∧ Post K w (f env w.S) (fun w' b => Q b w'.H) (WP K W σ)
def FO (X : Cx) (P : Pn) (W : WX) (e : Option Expr) (f : Fo) : Prop := PO X e (RO X.K P W f)
theorem poI {e : Option Expr} {t t' : TO} (h : PO X e t) (i : ∀ σ H Q, t' σ H Q → t σ H Q) : PO X e t' := ⟨fun pins s σ H Q I q => h.run pins s σ H Q I (i _ _ _ q)⟩
theorem ro_bind {σ : St} {w : Vw} {env : Env} {f : Fo} {β : Type} {k : Option Int → Sto → R β} {P' : Vw → β → Prop} {Q : Option Int → Hp → Prop} (o : w.Ok K) (en : EnvOk K P w σ env) (h : Post K w ((f env w.S).bind k) P' (WP K W σ))
    (c : ∀ w1 b, Ext w w1 → w1.Ok K → EnvOk K P w1 σ env → Post K w1 (k b w1.S) P' (WP K W σ) → Q b w1.H) : RO K P W f σ w.H Q :=
  ⟨w, env, rfl, o, en, h.bind.mono (fun w1 b e1 o1 q => c w1 b e1 o1 (en.to e1) q) fun _ _ _ _ _ q => q⟩
def fNoP : Fo := fun _ S => .ok none S
def fPart (f : F) : Fo := fun env S => (f env S).bind fun d S1 => match d with
  | .int i => .ok (some i) S1
  | _ => .bad
theorem fo_none : FO X P W none fNoP := poI po_none fun σ H Q ⟨w, env, hH, o, en, p⟩ => by
  subst hH
  exact Post.ret (a := (none : Option Int)) o p
theorem fo_some (h : FE X P W a fa) : FO X P W (some a) (fPart fa) := poI (po_some h) fun σ H Q ⟨w, env, hH, o, en, p⟩ => by
  subst hH
  refine re_bind o en p fun w1 x d e1 o1 en1 r1 p1 => ?_
  cases r1 with
  | int i => exact ⟨i, rfl, Post.ret (a := some i) o1 p1⟩
  | _ => exact p1.elim
def cutD (ds : List D) (lo hi : Option Int) : List D := (ds.drop (HT.sIx ds.length 0 lo)).take (HT.sIx ds.length ds.length hi - HT.sIx ds.length 0 lo)
def fSlG (g : Sto → D → Option Int → Option Int → Option D) (f : F) (fl fh : Fo) : F := fun env S => (f env S).bind fun d S1 => (fl env S1).bind fun l S2 => (fh env S2).bind fun h S3 => R.of (g S3 d l h) S3
theorem fe_slG {r : V → Option Int → Option Int → Hp → VK → Prop} {g : Sto → D → Option Int → Option Int → Option D} {fl fh : Fo} {lo hi : Option Expr} {p2 : Pos} (hr : SlR X r)
    (hs : ∀ (w : Vw) (x : V) (d z : D) (l h : Option Int) (Q : VK), w.Ok X.K → Rep X.K P w x d → g w.S d l h = some z → (∀ w' v, Ext w w' → w'.S = w.S → w'.Ok X.K → Rep X.K P w' v z → Q v w'.H) → r x l h w.H Q)
    (ha : FE X P W a fa) (hl : FO X P W lo fl) (hh : FO X P W hi fh) : FE X P W (.Subscript a (.Slice lo hi none p2) pos) (fSlG g fa fl fh) :=
  peI (pe_slice hr ha hl hh) fun σ H Q ⟨w, env, hH, o, en, p⟩ => by
    subst hH
    refine re_bind o en p fun w1 x d e1 o1 en1 r1 p1 => ro_bind o1 en1 p1 fun w2 l e2 o2 en2 p2 => ro_bind o2 en2 p2 fun w3 h e3 o3 en3 p3 => ?_
    obtain ⟨z, hz, q⟩ := p3.of
    exact hs w3 x d z l h Q o3 (r1.to (e2.trans e3)) hz fun w' v e' s' o' r' => q w' e' s' o' v r'
def gSlL : Sto → D → Option Int → Option Int → Option D := fun S d l h => (lisOf S d).map fun ds => .lst (cutD ds l h)
def gSlS : Sto → D → Option Int → Option Int → Option D := fun _ d l h => match d with
  | .str z => if z.length ≤ sizeLine then some (.str (cutS z l h)) else none
  | _ => none
def gSl : Sto → D → Option Int → Option Int → Option D := fun S d l h => match gSlL S d l h with
  | some z => some z
  | none => gSlS S d l h
theorem SlR.or {r r' : V → Option Int → Option Int → Hp → VK → Prop} (h : SlR X r) (h' : SlR X r') : SlR X (fun x l u H Q => r x l u H Q ∨ r' x l u H Q) := by
  intro pins s σ H x v vl vu lo hi sl Q I rx hs pl pu q
  rcases q with q | q
  · exact h pins s σ H x v vl vu lo hi sl Q I rx hs pl pu q
  · exact h' pins s σ H x v vl vu lo hi sl Q I rx hs pl pu q
theorem fe_sl {fl fh : Fo} {lo hi : Option Expr} {p2 : Pos} (ha : FE X P W a fa) (hl : FO X P W lo fl) (hh : FO X P W hi fh) : FE X P W (.Subscript a (.Slice lo hi none p2) pos) (fSlG gSl fa fl fh) :=
  fe_slG (SlR.or sl_list sl_str) (fun w x d z l h Q o r q k => by
    have q : (match gSlL w.S d l h with
      | some z => some z
      | none => gSlS w.S d l h) = some z := q
    cases g : gSlL w.S d l h with
    | some z' =>
      rw [g] at q
      cases q
      have g' : (lisOf w.S d).map (fun ds => D.lst (cutD ds l h)) = some z := g
      cases g2 : lisOf w.S d with
      | none => rw [g2] at g'; cases g'
      | some ds =>
        rw [g2] at g'
        cases g'
        obtain ⟨a, xs, rfl, h1, rr⟩ := lis_of o r g2
        refine .inl ⟨a, xs, rfl, h1, fun p hp => k (w.nu p (.lst (cutV xs l h))) _ (Vw.nu_ext hp) rfl (o.nu hp) (Rep.newL o hp ?_)⟩
        unfold cutV cutD
        rw [rr.length]
        exact (rr.drop _).take _
    | none =>
      rw [g] at q
      cases r with
      | str y =>
        have q : (if y.length ≤ sizeLine then some (D.str (cutS y l h)) else none) = some z := q
        by_cases hz : y.length ≤ sizeLine
        · rw [if_pos hz] at q
          cases q
          exact .inr ⟨y, rfl, hz, k w _ (Ext.refl w) rfl o (.str _)⟩
        · rw [if_neg hz] at q
          cases q
      | _ => cases q) ha hl hh
/-! ### methods of lists that are cells -/
def locL (S : Sto) : D → Option (Nat × List D)
  | .loc m => (Cell.lst? S[m]?).map fun ds => (m, ds)
  | _ => none
theorem loc_of {w : Vw} {v : V} {d : D} {m : Nat} {ds : List D} (o : w.Ok K) (r : Rep K P w v d) (e : locL w.S d = some (m, ds)) : d = .loc m ∧ v = .ref (w.ι m) ∧ m < w.S.length ∧ ∃ xs, w.H (w.ι m) = some (.lst xs) ∧ Reps K [] w xs ds := by
  cases r with
  | loc h =>
    rename_i k
    have e' : (Cell.lst? w.S[k]?).map (fun ds => (k, ds)) = some (m, ds) := e
    cases g : Cell.lst? w.S[k]? with
    | none => rw [g] at e'; cases e'
    | some es =>
      rw [g] at e'
      cases e'
      exact ⟨rfl, rfl, h, o.cell _ _ (lst?_some g)⟩
  | _ => cases e
/-- a method that changes its list: the answer, the list behind it -/
def mutAt (g : List D → List D → Option (D × List D)) (d : D) (ds : List D) (S : Sto) : R D := match locL S d with
  | some (m, xs) => (match g xs ds with
    | some (z, ys) => .ok z (S.set m (.lst ys))
    | none => .bad)
  | none => .bad
def fMut (g : List D → List D → Option (D × List D)) (fo : F) (fs : Fa) : F := fun env S => (fo env S).bind fun d S1 => match locL S1 d with
  | some _ => (fs env S1).bind fun ds S2 => mutAt g d ds S2
  | none => .bad
def fMut0 (g : List D → List D → Option (D × List D)) (fo : F) : F := fun env S => (fo env S).bind fun d S1 => mutAt g d [] S1
/-- what a changing method's rule says -/
def SimM (K : PySem.W.Frag) (r : V → List V → Hp → VK → Prop) (g : List D → List D → Option (D × List D)) : Prop :=
  ∀ (w : Vw) (l : Addr) (xs vs : List V) (ds es : List D) (z : D) (ys : List D) (Q : VK), w.H l = some (.lst xs) → Reps K [] w xs ds → Reps K [] w vs es → g ds es = some (z, ys) →
    (∀ v us, Rep K [] w v z → Reps K [] w us ys → Q v (upd w.H l (.lst us))) → r (.ref l) vs w.H Q
theorem mut_fin {w : Vw} {m : Nat} {us : List V} {ys : List D} (o : w.Ok K) (hm : m < w.S.length) (r : Reps K [] w us ys) : Ext w (w.st m (.lst us) (.lst ys)) ∧ (w.st m (.lst us) (.lst ys)).Ok K := by
  have e := Vw.st_ext (u := .lst us) (c := .lst ys) hm
  exact ⟨e, o.st hm ⟨us, upd_same, r.to e⟩⟩
theorem mut_end {w : Vw} {r : V → List V → Hp → VK → Prop} {g : List D → List D → Option (D × List D)} {x : V} {d : D} {vs : List V} {ds : List D} {Q : VK} {W' : Vw → Addr → List (Str × D) → Prop} (hs : SimM K r g) (o : w.Ok K) (r1 : Rep K [] w x d) (r2 : Reps K [] w vs ds)
    (p : Post K w (mutAt g d ds w.S) (fun w' d => ∀ v, Rep K [] w' v d → Q v w'.H) W') : r x vs w.H Q := by
  unfold mutAt at p
  cases h1 : locL w.S d with
  | none => rw [h1] at p; exact p.elim
  | some q =>
    obtain ⟨m, xs⟩ := q
    rw [h1] at p
    obtain ⟨rfl, rfl, hm, us, hu, ru⟩ := loc_of o r1 h1
    have p : Post K w (match g xs ds with
      | some (z, ys) => .ok z (w.S.set m (.lst ys))
      | none => .bad) (fun w' d => ∀ v, Rep K [] w' v d → Q v w'.H) W' := p
    cases h2 : g xs ds with
    | none => rw [h2] at p; exact p.elim
    | some q =>
      obtain ⟨z, ys⟩ := q
      rw [h2] at p
      refine hs w _ us vs xs ds z ys Q hu ru r2 h2 fun v us' rv rus => ?_
      obtain ⟨e, o'⟩ := mut_fin (K := K) o hm rus
      exact p _ e rfl o' v (rv.to e)
theorem locL_ty {w : Vw} {x : V} {d : D} {q : Nat × List D} (o : w.Ok K) (r : Rep K P w x d) (e : locL w.S d = some q) : tyV K "list" x w.H := by
  obtain ⟨m, xs⟩ := q
  obtain ⟨rfl, rfl, hm, us, hu, ru⟩ := loc_of o r e
  exact .inl ⟨rfl, us, SqL.of hu⟩
theorem fe_mut {r : V → List V → Hp → VK → Prop} {g : List D → List D → Option (D × List D)} {name : Str} {id : String} {apos cpos : Pos} (hpn : P = []) (hm : MtR X id r) (hs : SimM X.K r g) (slot : Slot "list" name id) (hty : typeOf (.builtin id) = pure (.type "method_descriptor")) (ho : FE X P W a fa) (ha : FA X P W (b :: es) fs)
    (hbase : attributeBase a name X.env (eval a X.env) = eval a X.env := by rfl)
    (hfew : ((backTo cpos (starEach (b :: es) X.env)).all (fun x => !x.1) && (backToKw cpos (keywordEach [] X.env)).all (fun x => x.1.isSome)
      && decide ((b :: es).length + ([] : List Keyword).length + (if ([] : List Keyword).isEmpty then 0 else 1) < 30)) = true := by rfl)
    (hline : (apos.endLine == cpos.line) = true := by rfl) (hst : starEach (b :: es) X.env = (false, eval b X.env) :: starEach es X.env := by rfl) (hplain : (backTo cpos (starEach es X.env)).any (·.1) = false := by rfl) :
    FE X P W (.Call (.Attribute a name apos) (b :: es) [] cpos) (fMut g fa fs) := by
  subst hpn
  refine peI (pe_bm PySem.F.plainAttrs_list slot hty hm ho ha hbase hfew hline hst hplain) fun σ H Q ⟨w, env, hH, o, en, p⟩ => ?_
  subst hH
  refine re_bind o en p fun w1 x d e1 o1 en1 r1 p1 => ?_
  cases h1 : locL w1.S d with
  | none => rw [h1] at p1; exact p1.elim
  | some q =>
    rw [h1] at p1
    exact ⟨locL_ty o1 r1 h1, ra_bind o1 en1 p1 fun w2 xs ds e2 o2 en2 r2 p2 => mut_end hs o2 (r1.to e2) r2 p2⟩
theorem fe_mut0 {r : V → List V → Hp → VK → Prop} {g : List D → List D → Option (D × List D)} {name : Str} {id : String} {apos cpos : Pos} (hpn : P = []) (hm : MtR X id r) (hs : SimM X.K r g) (slot : Slot "list" name id) (hty : typeOf (.builtin id) = pure (.type "method_descriptor")) (ho : FE X P W a fa)
    (hbase : attributeBase a name X.env (eval a X.env) = eval a X.env := by rfl) (hline : (apos.endLine == cpos.line) = true := by rfl) :
    FE X P W (.Call (.Attribute a name apos) [] [] cpos) (fMut0 g fa) := by
  subst hpn
  refine peI (pe_bm0 PySem.F.plainAttrs_list slot hty hm ho hbase hline) fun σ H Q ⟨w, env, hH, o, en, p⟩ => ?_
  subst hH
  refine re_bind o en p fun w1 x d e1 o1 en1 r1 p1 => ?_
  cases h1 : locL w1.S d with
  | none => unfold mutAt at p1; rw [h1] at p1; exact p1.elim
  | some q => exact ⟨locL_ty o1 r1 h1, mut_end hs o1 r1 .nil p1⟩
/-! the changing methods -/
def gAppend (xs : List D) (ds : List D) : Option (D × List D) := match ds with
  | [d] => if xs.length < sizeLine then some (.non, xs ++ [d]) else none
  | _ => none
theorem sim_append : SimM K rAppend gAppend := by
  intro w l xs vs ds es z ys Q hl r1 r2 e k
  cases r2 with
  | nil => cases e
  | cons a t =>
    cases t with
    | cons _ _ => cases e
    | nil =>
      rename_i v d
      have e : (if ds.length < sizeLine then some (D.non, ds ++ [d]) else none) = some (z, ys) := e
      by_cases h : ds.length < sizeLine
      · rw [if_pos h] at e
        cases e
        exact ⟨l, xs, v, rfl, rfl, hl, by rw [r1.length]; exact h, k _ _ .non (r1.append (.cons a .nil))⟩
      · rw [if_neg h] at e
        cases e
def gPop (xs : List D) (ds : List D) : Option (D × List D) := match ds, xs[xs.length - 1]? with
  | [], some d => some (d, xs.dropLast)
  | _, _ => none
theorem Reps.dropLast {w : Vw} : ∀ {vs : List V} {ds : List D}, Reps K P w vs ds → Reps K P w vs.dropLast ds.dropLast
  | _, _, .nil => .nil
  | _, _, .cons _ .nil => .nil
  | _, _, .cons h (.cons a t) => .cons h (Reps.dropLast (.cons a t))
theorem sim_pop : SimM K rPop gPop := by
  intro w l xs vs ds es z ys Q hl r1 r2 e k
  cases r2 with
  | cons _ _ => unfold gPop at e; split at e <;> first | contradiction | cases e
  | nil =>
    unfold gPop at e
    cases g : ds[ds.length - 1]? with
    | none => rw [g] at e; cases e
    | some d =>
      rw [g] at e
      cases e
      obtain ⟨v, h1, h2⟩ := r1.get g
      exact ⟨l, xs, v, rfl, rfl, hl, by rw [r1.length]; exact h1, k _ _ h2 r1.dropLast⟩
def gPopAt (xs : List D) (ds : List D) : Option (D × List D) := match ds with
  | [.int i] => if -(2 ^ 63) ≤ i ∧ i < 2 ^ 63 then (match seqIndex? i xs.length with
    | some k => (xs[k]?).map fun d => (d, xs.eraseIdx k)
    | none => none) else none
  | _ => none
def gInsert (xs : List D) (ds : List D) : Option (D × List D) := match ds with
  | [.int i, d] => if xs.length < sizeLine ∧ 0 ≤ i ∧ i < 2 ^ 63 then some (.non, xs.take i.toNat ++ [d] ++ xs.drop i.toNat) else none
  | _ => none
/-! ### methods that only read -/
def fMeth (g : Sto → D → List D → Option D) (fo : F) (fs : Fa) : F := fun env S => (fo env S).bind fun d S1 => (fs env S1).bind fun ds S2 => R.of (g S2 d ds) S2
/-- a list's reading method: the receiver a list -/
def fMethL (g : Sto → D → List D → Option D) (fo : F) (fs : Fa) : F := fun env S => (fo env S).bind fun d S1 => match lisOf S1 d with
  | some _ => (fs env S1).bind fun ds S2 => R.of (g S2 d ds) S2
  | none => .bad
def SimMR (K : PySem.W.Frag) (P : Pn) (r : V → List V → Hp → VK → Prop) (g : Sto → D → List D → Option D) : Prop :=
  ∀ (w : Vw) (x : V) (vs : List V) (d : D) (es : List D) (z : D) (Q : VK), w.Ok K → Rep K P w x d → Reps K P w vs es → g w.S d es = some z → (∀ w' v, Ext w w' → w'.S = w.S → w'.Ok K → Rep K P w' v z → Q v w'.H) → r x vs w.H Q
def D.flat : D → Bool
  | .non => true
  | .bl _ => true
  | .int _ => true
  | .str _ => true
  | _ => false
def eqD : D → D → Bool
  | .non, .non => true
  | .bl a, .bl b => a == b
  | .bl a, .int b => (if a then 1 else 0) == b
  | .int a, .bl b => a == (if b then 1 else 0)
  | .int a, .int b => a == b
  | .str a, .str b => a == b
  | _, _ => false
theorem flat_ok {w : Vw} {v : V} {d : D} (r : Rep K P w v d) (f : d.flat = true) : flatV v = true := by
  cases r <;> first | rfl | exact absurd f Bool.false_ne_true
theorem eqD_ok {w : Vw} {v u : V} {d e : D} (r : Rep K P w v d) (q : Rep K P w u e) (f : d.flat = true) (f' : e.flat = true) : eqV v u = eqD d e := by
  cases r <;> first | (cases q <;> first | rfl | exact absurd f' Bool.false_ne_true) | exact absurd f Bool.false_ne_true
theorem flats_ok {w : Vw} : ∀ {vs : List V} {ds : List D}, Reps K P w vs ds → ds.all D.flat = true → vs.all flatV = true
  | _, _, .nil, _ => rfl
  | _, _, .cons h t, f => by
    rw [List.all_cons, Bool.and_eq_true] at f
    rw [List.all_cons, flat_ok h f.1, flats_ok t f.2]
    rfl
def gCount : Sto → D → List D → Option D := fun S d es => match es with
  | [e] => (lisOf S d).bind fun ds => if (e.flat && ds.all D.flat) = true then some (.int (ds.countP fun d => eqD d e : Nat)) else none
  | _ => none
def gIn (neg : Bool) : Sto → D → D → Option D := fun S e d => (seqOf S d).bind fun ds => if (e.flat && ds.all D.flat) = true then some (.bl (if neg then !(ds.any fun d => eqD d e) else ds.any fun d => eqD d e)) else none
end
end FL
set_option maxRecDepth 100000
set_option maxHeartbeats 2000000
namespace FL
open PySem PySem.Spec PyProof.Rows L2
section
variable {X : Cx} {K : PySem.W.Frag} {P : Pn} {W : WX} {a b e o i : Expr} {es : List Expr} {fa fb fo fi : F} {fs : Fa} {pos p : Pos}
/-! ### o[i] = e, o a cell -/
def setAt (d x j : D) (S : Sto) : Option Sto := match locL S x, j with
  | some (m, xs), .int k => (ixN xs.length k).map fun j => S.set m (.lst (xs.set j d))
  | _, _ => none
def sSetI (f fo fi : F) : SF := fun env S => (f env S).bindS env fun d S1 => (fo env S1).bindS env fun x S2 => (fi env S2).bindS env fun j S3 => match setAt d x j S3 with
  | some S4 => .fl (.nx env) S4
  | none => .bad
theorem fs_seti {tpos : Pos} (hpn : P = []) (he : FE X P W e fa) (ho : FE X P W o fo) (hi : FE X P W i fi)
    (ha : ∀ v, assign (.Subscript o i tpos) X.env v = (do
      let ov ← holding [v] (eval o X.env)
      let iv ← holding [v, ov] (eval i X.env)
      standAt tpos
      holding [v, ov, iv] (setItem ov iv v)
      release [v, ov, iv] []) := by intro _; rfl)
    (hs : swapsWithSole [.Subscript o i tpos] e pos.line X.env = pure false := by rfl) (hw : swappedStores [.Subscript o i tpos] e X.env = pure none := by rfl)
    (h1 : (assignEach [.Subscript o i tpos] X.env).map (·.2) = [assign (.Subscript o i tpos) X.env] := by rfl) : FS X P W (.Assign [.Subscript o i tpos] e pos) (sSetI fa fo fi) := by
  subst hpn
  refine psI (ps_asg he (pg_sub ho hi set_list ha) hs hw h1) fun D σ H ⟨w, env, hH, ok, en, p⟩ => ?_
  subst hH
  refine rs_bind ok en p fun w1 v d e1 o1 en1 r1 p1 => ?_
  refine rs_bind o1 en1 p1 fun w2 x dx e2 o2 en2 r2 p2 => ?_
  refine rs_bind o2 en2 p2 fun w3 j dj e3 o3 en3 r3 p3 => ?_
  unfold setAt at p3
  cases g : locL w3.S dx with
  | none => rw [g] at p3; exact p3.elim
  | some q =>
    obtain ⟨m, xs⟩ := q
    rw [g] at p3
    obtain ⟨rfl, rfl, hm, us, hu, ru⟩ := loc_of o3 (r2.to e3) g
    cases r3 with
    | int k =>
      have p3 : PostS X.K [] w3 (match (ixN xs.length k).map fun j => w3.S.set m (.lst (xs.set j d)) with
        | some S4 => .fl (.nx env) S4
        | none => .bad) D W := p3
      cases g2 : ixN xs.length k with
      | none => rw [g2] at p3; exact p3.elim
      | some j =>
        rw [g2] at p3
        refine ⟨_, us, k, j, rfl, rfl, hu, by rw [ru.length]; exact g2, ?_⟩
        have rd := (r1.to e2).to e3
        have r4 : Reps X.K [] w3 (us.set j v) (xs.set j d) := Reps.set rd j ru
        obtain ⟨e4, o4⟩ := mut_fin (K := X.K) o3 hm r4
        exact p3 (w3.st m (.lst (us.set j v)) (.lst (xs.set j d))) σ e4 rfl o4 (en3.to e4)
    | _ => exact p3.elim
/-! ### a, b = .. -/
abbrev TGfs := List D → Env → Sto → Option Env
def RGs (K : PySem.W.Frag) (pn : Pn) (g : TGfs) : TGs := fun vs σ H Q => ∃ w env ds env', w.H = H ∧ w.Ok K ∧ EnvOk K pn w σ env ∧ Reps K pn w vs ds ∧ g ds env w.S = some env' ∧ ∀ w' σ', Ext w w' → w'.S = w.S → w'.Ok K → EnvOk K pn w' σ' env' → Q σ' w'.H
def FGs (X : Cx) (P : Pn) (ts : List Expr) (g : TGfs) : Prop := PGs X ts (RGs X.K P g)
theorem pgsI {es : List Expr} {t t' : TGs} (h : PGs X es t) (i : ∀ v σ H Q, t' v σ H Q → t v σ H Q) : PGs X es t' := ⟨fun pins s σ H v u Q I r q => h.run pins s σ H v u Q I r (i _ _ _ _ q)⟩
def gsNil : TGfs := fun ds env _ => match ds with
  | [] => some env
  | _ => none
def gsCons (g : TGf) (h : TGfs) : TGfs := fun ds env S => match ds with
  | d :: ds => (g d env S).bind fun env' => h ds env' S
  | [] => none
def gTupF (n : Nat) (g : TGfs) : TGf := fun d env S => (seqOf S d).bind fun ds => if ds.length = n then g ds env S else none
/-! ### a op= e at a name -/
def sAug (i : Nat) (g : Sto → D → D → Option D) (f : F) : SF := fun env S => match env[i]? with
  | some (some d) => (f env S).bindS env fun y S1 => (R.of (g S1 d y) S1).bindS env fun z S2 => .fl (.nx (env.set i (some z))) S2
  | _ => .bad
/-! ### what is walked -/
def srcOf (S : Sto) : D → Option Src
  | .tup ds => some (.fix ds)
  | .lst ds => some (.fix ds)
  | .fls ds => some (.fix ds)
  | .loc m => (Cell.lst? S[m]?).map fun _ => .cell m
  | .str x => some (.fix (x.cps.toList.map fun c => .str ⟨#[c]⟩))
  | _ => none
def iSeq (f : F) : Fi := fun env S => (f env S).bind fun d S1 => R.of (srcOf S1 d) S1
theorem walk_list {w : Vw} {a : Addr} {xs : List V} {ds : List D} (h : ∀ w', Ext w w' → w'.Ok K → SqL K w'.H a xs) (r : Reps K P w xs ds) : WalksS K P w (Itl K a) (.fix ds) := by
  intro w' e o i
  have q := h w' e o
  refine ⟨fun z => ?_, fun d z => ?_⟩
  · have z : ds[i]? = none := Option.some.inj z
    exact ⟨xs, q, by rw [r.length]; exact List.getElem?_eq_none_iff.mp z⟩
  · have z : ds[i]? = some d := Option.some.inj z
    obtain ⟨v, h1, h2⟩ := r.get z
    refine ⟨⟨xs, v, q, h1⟩, fun x H' y => ⟨w', y.1.symm, Ext.refl w', rfl, o, ?_⟩⟩
    have := y.2 xs q
    rw [h1] at this
    cases this
    exact h2.to e
theorem walk_tup {w : Vw} {a : Addr} {xs : List V} {ds : List D} (h : ∀ w', Ext w w' → w'.Ok K → SqT K w'.H a xs) (r : Reps K P w xs ds) : WalksS K P w (Itt K a) (.fix ds) := by
  intro w' e o i
  have q := h w' e o
  refine ⟨fun z => ?_, fun d z => ?_⟩
  · have z : ds[i]? = none := Option.some.inj z
    exact ⟨xs, q, by rw [r.length]; exact List.getElem?_eq_none_iff.mp z⟩
  · have z : ds[i]? = some d := Option.some.inj z
    obtain ⟨v, h1, h2⟩ := r.get z
    refine ⟨⟨xs, v, q, h1⟩, fun x H' y => ⟨w', y.1.symm, Ext.refl w', rfl, o, ?_⟩⟩
    have := y.2 xs q
    rw [h1] at this
    cases this
    exact h2.to e
theorem walk_cell {w : Vw} {m : Nat} (hm : m < w.S.length) : WalksS K P w (Itl K (w.ι m)) (.cell m) := by
  intro w' e o i
  have hi : w'.ι m = w.ι m := e.ι m hm
  refine ⟨fun z => ?_, fun d z => ?_⟩
  · have z : (Cell.lst? w'.S[m]?).map (fun ds => ds[i]?) = some none := z
    cases g : Cell.lst? w'.S[m]? with
    | none => rw [g] at z; cases z
    | some ds =>
      rw [g] at z
      have z : ds[i]? = none := Option.some.inj z
      obtain ⟨xs, h1, r⟩ := o.cell m _ (lst?_some g)
      rw [hi] at h1
      exact ⟨xs, SqL.of h1, by rw [r.length]; exact List.getElem?_eq_none_iff.mp z⟩
  · have z : (Cell.lst? w'.S[m]?).map (fun ds => ds[i]?) = some (some d) := z
    cases g : Cell.lst? w'.S[m]? with
    | none => rw [g] at z; cases z
    | some ds =>
      rw [g] at z
      have z : ds[i]? = some d := Option.some.inj z
      obtain ⟨xs, h1, r⟩ := o.cell m _ (lst?_some g)
      rw [hi] at h1
      obtain ⟨v, h2, h3⟩ := r.get z
      refine ⟨⟨xs, v, SqL.of h1, h2⟩, fun x H' y => ⟨w', y.1.symm, Ext.refl w', rfl, o, ?_⟩⟩
      have := y.2 xs (SqL.of h1)
      rw [h2] at this
      cases this
      exact h3.ext (Ext.refl w') (fun _ z => absurd z (by simp))
theorem walk_str {w : Vw} {x : Str} : WalksS K P w (Its x) (.fix (x.cps.toList.map fun c => .str ⟨#[c]⟩)) := by
  intro w' e o i
  refine ⟨fun z => ?_, fun d z => ?_⟩
  · have z : (x.cps.toList.map fun c => D.str ⟨#[c]⟩)[i]? = none := Option.some.inj z
    have := List.getElem?_eq_none_iff.mp z
    show x.cps.size ≤ i
    simpa using this
  · have z : (x.cps.toList.map fun c => D.str ⟨#[c]⟩)[i]? = some d := Option.some.inj z
    rw [List.getElem?_map] at z
    cases g : x.cps.toList[i]? with
    | none => rw [g] at z; cases z
    | some c =>
      rw [g] at z
      cases z
      have hi : i < x.cps.size := by simpa using (List.getElem?_eq_some_iff.mp g).1
      refine ⟨hi, fun v H' y => ⟨w', y.1.symm, Ext.refl w', rfl, o, ?_⟩⟩
      obtain ⟨c', h1, rfl⟩ := y.2
      have : x.cps[i]? = some c := by simpa using g
      rw [this] at h1
      cases h1
      exact .str _
theorem fi_seq {tg : Expr} (he : FE X P W e fa) : FI X P W tg e (iSeq fa) := by
  have both : PI X tg e (fun σ H R => iList X.K (RE X.K P W fa) σ H R ∨ (iTup X.K (RE X.K P W fa) σ H R ∨ iStr (RE X.K P W fa) σ H R)) := ⟨fun pins s σ H R I q => by
    rcases q with q | q | q
    · exact (pi_list he).run pins s σ H R I q
    · exact (pi_tup he).run pins s σ H R I q
    · exact (pi_str he).run pins s σ H R I q⟩
  refine piI both fun σ H R ⟨w, env, hH, ok, en, p⟩ => ?_
  subst hH
  -- which kind it is
  unfold iSeq at p
  cases q : fa env w.S with
  | bad => rw [q] at p; exact p.elim
  | exc C fs S1 =>
    rw [q] at p
    exact .inl ⟨w, env, rfl, ok, en, by rw [q]; exact p⟩
  | ok d S1 =>
    have p0 := p.bind
    rw [q] at p0
    have fin : ∀ (Q : VK), (∀ w1 v, Ext w w1 → w1.S = S1 → w1.Ok X.K → Rep X.K P w1 v d → (∃ s, srcOf w1.S d = some s ∧ ∀ J, WalksS X.K P w1 J s → R J w1.H) → Q v w1.H) → RE X.K P W fa σ w.H Q := fun Q k => by
      refine ⟨w, env, rfl, ok, en, ?_⟩
      rw [q]
      intro w1 e1 s1 o1 v r
      have p1 := p0 w1 e1 s1 o1
      obtain ⟨s, hs, q1⟩ := p1.of
      exact k w1 v e1 s1 o1 r ⟨s, hs, q1 w1 (Ext.refl w1) rfl o1⟩
    cases d with
    | lst ds =>
      refine .inl (fin _ fun w1 v e1 s1 o1 r ⟨s, hs, kk⟩ => ?_)
      cases hs
      cases r with
      | @lst a xs _ h r => exact ⟨a, rfl, ⟨xs, h.sq⟩, kk _ (walk_list (fun w' e' _ => (e'.lstV h).sq) r)⟩
    | fls ds =>
      refine .inl (fin _ fun w1 v e1 s1 o1 r ⟨s, hs, kk⟩ => ?_)
      cases hs
      cases r with
      | @fls a xs _ h r => exact ⟨a, rfl, ⟨xs, h.sq⟩, kk _ (walk_list (fun w' e' _ => (e'.lst h).sq) r)⟩
    | tup ds =>
      refine .inr (.inl (fin _ fun w1 v e1 s1 o1 r ⟨s, hs, kk⟩ => ?_))
      cases hs
      cases r with
      | @tup a xs _ h r => exact ⟨a, rfl, ⟨xs, h.sq⟩, kk _ (walk_tup (fun w' e' _ => (e'.tup h).sq) r)⟩
    | loc m =>
      refine .inl (fin _ fun w1 v e1 s1 o1 r ⟨s, hs, kk⟩ => ?_)
      have hs : (Cell.lst? w1.S[m]?).map (fun _ => Src.cell m) = some s := hs
      cases g : Cell.lst? w1.S[m]? with
      | none => rw [g] at hs; cases hs
      | some ds =>
        rw [g] at hs
        cases hs
        cases r with
        | loc h =>
          obtain ⟨xs, h1, _⟩ := o1.cell m _ (lst?_some g)
          exact ⟨_, rfl, ⟨xs, SqL.of h1⟩, kk _ (walk_cell h)⟩
    | str x =>
      refine .inr (.inr (fin _ fun w1 v e1 s1 o1 r ⟨s, hs, kk⟩ => ?_))
      cases hs
      cases r with
      | str => exact ⟨x, rfl, kk _ walk_str⟩
    | _ =>
      refine .inl (fin _ fun w1 v e1 s1 o1 r ⟨s, hs, kk⟩ => ?_)
      cases hs
/-! ranges -/
def rngD (lo : Int) (n : Nat) : List D := (List.range n).map fun i : Nat => .int (lo + (i : Int))
theorem rngD_get {lo : Int} {n i : Nat} {d : D} (h : (rngD lo n)[i]? = some d) : i < n ∧ d = .int (lo + i) := by
  unfold rngD at h
  rw [List.getElem?_map] at h
  cases g : (List.range n)[i]? with
  | none => rw [g] at h; cases h
  | some j =>
    rw [g] at h
    cases h
    have h1 := List.getElem?_eq_some_iff.mp g
    obtain ⟨h2, h3⟩ := h1
    rw [List.getElem_range] at h3
    subst h3
    exact ⟨by simpa using h2, rfl⟩
theorem walk_rng {w : Vw} {lo : Int} {n : Nat} : WalksS K P w (Itr lo n) (.fix (rngD lo n)) := by
  intro w' e o i
  refine ⟨fun z => ?_, fun d z => ?_⟩
  · have z : (rngD lo n)[i]? = none := Option.some.inj z
    have := List.getElem?_eq_none_iff.mp z
    show n ≤ i
    simpa [rngD] using this
  · have z : (rngD lo n)[i]? = some d := Option.some.inj z
    obtain ⟨h1, rfl⟩ := rngD_get z
    exact ⟨h1, fun v H' y => ⟨w', y.1.symm, Ext.refl w', rfl, o, by rw [y.2]; exact .int _⟩⟩
def smallI (i : Int) : Bool := decide (-(2 ^ 62) ≤ i ∧ i < 2 ^ 62)
def gRng1 : List D → Option Src
  | [.int j] => if smallI j = true then some (.fix (rngD 0 j.toNat)) else none
  | _ => none
def gRng2 : List D → Option Src
  | [.int i, .int j] => if (smallI i && smallI j) = true then some (.fix (rngD i (j - i).toNat)) else none
  | _ => none
def iRng (g : List D → Option Src) (f : Fa) : Fi := fun env S => (f env S).bind fun ds S1 => R.of (g ds) S1
theorem fi_range1 {tg : Expr} (hg : Gl X "range") (hm : X.mg "range" = none) (ha : FA X P W [a] fs) (hs : starEach [a] X.env = [(false, eval a X.env)] := by rfl) : FI X P W tg (.Call (.Name "range" p) [a] [] pos) (iRng gRng1 fs) :=
  piI (pi_range1 hg hm ha hs) fun σ H R ⟨w, env, hH, ok, en, pp⟩ => by
    subst hH
    refine ra_bind ok en pp fun w1 vs ds e1 o1 en1 r1 p1 => ?_
    obtain ⟨s, hs, k⟩ := p1.of
    have k := k w1 (Ext.refl w1) rfl o1
    cases r1 with
    | nil => cases hs
    | cons h t =>
      cases t with
      | cons h2 t => cases h <;> cases hs
      | nil =>
        cases h with
        | int j =>
          have hs : (if smallI j = true then some (Src.fix (rngD 0 j.toNat)) else none) = some s := hs
          by_cases hj : smallI j = true
          · rw [if_pos hj] at hs
            cases hs
            obtain ⟨h1, h2⟩ := of_decide_eq_true hj
            exact ⟨j, rfl, h1, h2, k _ walk_rng⟩
          · rw [if_neg hj] at hs
            cases hs
        | _ => cases hs
end
/-! ### comprehensions -/
section
variable {K : PySem.W.Frag} {P : Pn} {w : Vw}
abbrev Vw.z (w : Vw) (Z : List Addr) : Vw := { w with Z := Z }
theorem unz_mut {Z0 : List Addr} (h : ∀ z ∈ Z0, z ∈ w.Z) {a : Addr} (n : ¬ w.mut a) : ¬ (w.z Z0).mut a := fun q => n (q.imp id (h a))
mutual
theorem Rep.unz {Z0 : List Addr} (hz : ∀ z ∈ Z0, z ∈ w.Z) : ∀ {v : V} {d : D}, Rep K P w v d → Rep K P (w.z Z0) v d
  | _, _, .non => .non
  | _, _, .bl b => .bl b
  | _, _, .int i => .int i
  | _, _, .str x => .str x
  | _, _, .ty n => .ty n
  | _, _, .ref a => .ref a
  | _, _, .tup h r => .tup (h.imp (fun h => ⟨h.1, unz_mut hz h.2⟩) id) (Reps.unz hz r)
  | _, _, .lst h r => .lst ⟨h.1, unz_mut hz h.2⟩ (Reps.unz hz r)
  | _, _, .fls h r => .fls (h.imp (fun h => ⟨h.1, unz_mut hz h.2⟩) id) (Reps.unz hz r)
  | _, _, .loc h => Rep.loc (w := w.z Z0) h
  | _, _, .obj h n r => .obj h (unz_mut hz n) (RepF.unz hz r)
  | _, _, .exn0 h hz hf => .exn0 h hz hf
  | _, _, .exn h hc hf hd n r => .exn h hc hf hd (unz_mut hz n) (RepF.unz hz r)
theorem Reps.unz {Z0 : List Addr} (hz : ∀ z ∈ Z0, z ∈ w.Z) : ∀ {v : List V} {d : List D}, Reps K P w v d → Reps K P (w.z Z0) v d
  | _, _, .nil => .nil
  | _, _, .cons h t => .cons (Rep.unz hz h) (Reps.unz hz t)
theorem RepF.unz {Z0 : List Addr} (hz : ∀ z ∈ Z0, z ∈ w.Z) : ∀ {v : List (Str × V)} {d : List (Str × D)}, RepF K P w v d → RepF K P (w.z Z0) v d
  | _, _, .nil => .nil
  | _, _, .cons h t => .cons (Rep.unz hz h) (RepF.unz hz t)
end

theorem Vw.Ok.unz {Z0 : List Addr} (o : w.Ok K) (hz : ∀ z ∈ Z0, z ∈ w.Z) : (w.z Z0).Ok K where
  inj := o.inj
  hz := fun z h => o.hz z (hz z h)
  hzl := fun m hm h => o.hzl m hm (hz _ h)
  cell := fun m c h => by
    have q := o.cell m c h
    cases c with
    | lst ds => obtain ⟨xs, h, r⟩ := q; exact ⟨xs, h, r.unz hz⟩
    | ins C gs => obtain ⟨dx, fs, h, r⟩ := q; exact ⟨dx, fs, h, r.unz hz⟩
/-- the hidden object changes -/
theorem zu_rd {D0 : Addr} {u o : HO} {a : Addr} (hD : D0 ∈ w.Z) (h : Rd w.H a o ∧ ¬ w.mut a) : Rd (upd w.H D0 u) a o ∧ ¬ (w.nu D0 u).mut a := by
  have ne : a ≠ D0 := fun e => h.2 (.inr (by rw [e]; exact hD))
  refine ⟨?_, h.2⟩
  rcases h.1 with g | ⟨x, g⟩
  · exact .inl ((upd_ne ne).trans g)
  · exact .inr ⟨x, (upd_ne ne).trans g⟩
theorem zu_tr {D0 : Addr} {u : HO} {a : Addr} {xs : List V} (hD : D0 ∈ w.Z) (h : TupR w.H a xs ∧ ¬ w.mut a) : TupR (upd w.H D0 u) a xs ∧ ¬ (w.nu D0 u).mut a := by
  have ne : a ≠ D0 := fun e => h.2 (.inr (by rw [e]; exact hD))
  obtain ⟨⟨o, g, d⟩, n⟩ := h
  exact ⟨⟨o, (upd_ne ne).trans g, d⟩, n⟩
mutual
theorem Rep.zu {D0 : Addr} {u : HO} (hD : D0 ∈ w.Z) : ∀ {v : V} {d : D}, Rep K P w v d → Rep K P (w.nu D0 u) v d
  | _, _, .non => .non
  | _, _, .bl b => .bl b
  | _, _, .int i => .int i
  | _, _, .str x => .str x
  | _, _, .ty n => .ty n
  | _, _, .ref a => .ref a
  | _, _, .tup h r => .tup (h.imp (zu_tr hD) id) (Reps.zu hD r)
  | _, _, .lst h r => .lst ⟨(upd_ne (fun e => h.2 (.inr (by rw [e]; exact hD)))).trans h.1, h.2⟩ (Reps.zu hD r)
  | _, _, .fls h r => .fls (h.imp (zu_rd hD) id) (Reps.zu hD r)
  | _, _, .loc h => Rep.loc (w := w.nu D0 u) h
  | _, _, .obj h n r => .obj ((upd_ne (fun e => n (.inr (by rw [e]; exact hD)))).trans h) n (RepF.zu hD r)
  | _, _, .exn0 h hz hf => .exn0 h hz hf
  | _, _, .exn h hc hf hd n r => .exn h hc hf ((upd_ne (fun e => n (.inr (by rw [e]; exact hD)))).trans hd) n (RepF.zu hD r)
theorem Reps.zu {D0 : Addr} {u : HO} (hD : D0 ∈ w.Z) : ∀ {v : List V} {d : List D}, Reps K P w v d → Reps K P (w.nu D0 u) v d
  | _, _, .nil => .nil
  | _, _, .cons h t => .cons (Rep.zu hD h) (Reps.zu hD t)
theorem RepF.zu {D0 : Addr} {u : HO} (hD : D0 ∈ w.Z) : ∀ {v : List (Str × V)} {d : List (Str × D)}, RepF K P w v d → RepF K P (w.nu D0 u) v d
  | _, _, .nil => .nil
  | _, _, .cons h t => .cons (Rep.zu hD h) (RepF.zu hD t)
end

theorem Vw.Ok.zu {D0 : Addr} {u : HO} (o : w.Ok K) (hD : D0 ∈ w.Z) : (w.nu D0 u).Ok K where
  inj := o.inj
  hz := fun z h => by
    by_cases e : z = D0
    · subst e
      exact ⟨u, upd_same⟩
    · obtain ⟨x, hx⟩ := o.hz z h
      exact ⟨x, (upd_ne e).trans hx⟩
  hzl := o.hzl
  cell := fun m c h => by
    have q := o.cell m c h
    have ne : w.ι m ≠ D0 := fun e => o.hzl m (List.getElem?_eq_some_iff.mp h).1 (by rw [e]; exact hD)
    cases c with
    | lst ds => obtain ⟨xs, h, r⟩ := q; exact ⟨xs, (upd_ne ne).trans h, r.zu hD⟩
    | ins C gs => obtain ⟨dx, fs, h, r⟩ := q; exact ⟨dx, fs, (upd_ne ne).trans h, r.zu hD⟩
/-- a new object that is hidden -/
theorem hide_ext {D0 : Addr} {u : HO} (h : w.H D0 = none) : Ext w ((w.nu D0 u).z (D0 :: w.Z)) :=
  ⟨Nat.le_refl _, fun _ _ => rfl, fun m h1 h2 => absurd h2 (Nat.not_lt.mpr h1), ⟨fun z hz => List.mem_cons_of_mem _ hz, fun z hz => by
    rcases List.mem_cons.mp hz with e | hz
    · exact .inr (by rw [e]; exact h)
    · exact .inl hz⟩, fun a o q _ => (upd_ne (ne_of_none q h)).trans q, fun a o q => ⟨o, (upd_ne (ne_of_none q h)).trans q⟩⟩
theorem hide_ok {D0 : Addr} {u : HO} (o : w.Ok K) (h : w.H D0 = none) : ((w.nu D0 u).z (D0 :: w.Z)).Ok K where
  inj := o.inj
  hz := fun z hz => by
    rcases List.mem_cons.mp hz with e | hz
    · rw [e]; exact ⟨u, upd_same⟩
    · obtain ⟨x, hx⟩ := o.hz z hz
      exact ⟨x, (upd_ne (ne_of_none hx h)).trans hx⟩
  hzl := fun m hm hz => by
    rcases List.mem_cons.mp hz with e | hz
    · exact o.fresh h (.inl ⟨m, hm, e⟩)
    · exact o.hzl m hm hz
  cell := fun m c q => by
    obtain ⟨x, hx, _⟩ := (o.cell m c q).live
    exact (o.cell m c q).ext (hide_ext h) (upd_ne (ne_of_none hx h))
/-- the later view with the hidden objects of the elder one alone -/
theorem Ext.unz {w1 w2 : Vw} (e : Ext w1 w2) : Ext w1 (w2.z w1.Z) := ⟨e.len, e.ι, e.new, ⟨fun _ h => h, fun _ h => .inl h⟩, e.keep, e.live⟩
theorem Ext.zu {w1 w2 : Vw} {D0 : Addr} {u : HO} (e : Ext w1 w2) (hn : w1.H D0 = none) : Ext w1 (w2.nu D0 u) :=
  ⟨e.len, e.ι, e.new, e.Z, fun a o h n => (upd_ne (ne_of_none h hn)).trans (e.keep a o h n), fun a o h => by
    obtain ⟨o', h'⟩ := e.live a o h
    exact ⟨o', (upd_ne (ne_of_none h hn)).trans h'⟩⟩
end
/-- the turns of a comprehension -/
def lcS (s : Src) (body : D → Sto → R (Option D)) : Nat → Nat → List D → Sto → R (List D)
  | fuel, i, acc, S => match s.next S i with
    | none => .bad
    | some none => .ok acc S
    | some (some d) => match fuel with
      | 0 => .bad
      | fuel + 1 => (body d S).bind fun o S1 => match o with
        | some z => if acc.length < sizeLine then lcS s body fuel (i + 1) (acc ++ [z]) S1 else .bad
        | none => lcS s body fuel (i + 1) acc S1
def wipeE (env : Env) : List Nat → Env
  | [] => env
  | v :: vs => (wipeE env vs).set v none
theorem wipeE_ok {K : PySem.W.Frag} {P : Pn} {w : Vw} {σ : St} {env : Env} (en : EnvOk K P w σ env) : ∀ vs, EnvOk K P w (wipe σ vs) (wipeE env vs)
  | [] => en
  | v :: vs => (wipeE_ok en vs).drop1
def R.noX {α : Type} : R α → R α
  | .ok a S => .ok a S
  | _ => .bad
def lcBody (g : TGf) (ft : Ft) (fe : F) (env : Env) : D → Sto → R (Option D) := fun d S => match g d env S with
  | some env' => (ft env' S).noX.bind fun b S1 => if b = true then (fe env' S1).noX.bind fun z S2 => .ok (some z) S2 else .ok none S1
  | none => .bad
/-- the items of [fe for g in fi if ft] -/
def fLcA (fi : Fi) (g : TGf) (ft : Ft) (fe : F) (vs : List Nat) : Fa := fun env S => (fi env S).bind fun s S1 => lcS s (lcBody g ft fe (wipeE env vs)) (s.fuel S1) 0 [] S1
def fLc (fi : Fi) (g : TGf) (ft : Ft) (fe : F) (vs : List Nat) : F := fun env S => (fLcA fi g ft fe vs env S).bind fun ds S1 => .ok (.lst ds) S1
def fLcL (fi : Fi) (g : TGf) (ft : Ft) (fe : F) (vs : List Nat) : F := fun env S => (fLcA fi g ft fe vs env S).bind fun ds S1 => .ok (.loc S1.length) (S1 ++ [.lst ds])
abbrev WF : WX := fun _ _ _ _ => False
theorem Post.to {K : PySem.W.Frag} {α : Type} {w w1 : Vw} {r : R α} {P : Vw → α → Prop} {W : Vw → Addr → List (Str × D) → Prop} (h : Post K w r P W) (e : Ext w w1) : Post K w1 r P W := by
  cases r with
  | ok a S => exact fun w' e' => h w' (e.trans e')
  | exc C fs S => exact fun w' e' => h w' (e.trans e')
  | bad => exact h
def FTs (X : Cx) (P : Pn) (W : WX) (ifs : List Expr) (f : Ft) : Prop := PTs X ifs (RT X.K P W f)
def fYes : Ft := fun _ S => .ok true S
theorem fts_nil {X : Cx} {P : Pn} {W : WX} : FTs X P W [] fYes := ⟨fun pins s σ H Q I ⟨w, env, hH, o, en, p⟩ => by
  subst hH
  exact pts_nil.run pins s σ w.H Q I (Post.ret (a := true) o p)⟩
theorem wipe_get {σ : St} {j : Nat} : ∀ {vs : List Nat}, (wipe σ vs)[j]? = if j ∈ vs then (if j < σ.length then some none else none) else σ[j]?
  | [] => by simp [wipe]
  | v :: vs => by
    have ih := wipe_get (σ := σ) (j := j) (vs := vs)
    unfold wipe
    by_cases e : v = j
    · subst e
      by_cases hl : v < σ.length
      · rw [List.getElem?_set_self (by rw [wipe_length]; exact hl)]
        simp [hl]
      · rw [List.getElem?_eq_none (by rw [List.length_set, wipe_length]; omega)]
        simp [hl]
    · rw [List.getElem?_set_ne e, ih]
      simp [Ne.symm e]
theorem wipe_set {σ : St} {i : Nat} {x : Option V} {vs : List Nat} (h : i ∈ vs) : wipe (σ.set i x) vs = wipe σ vs := by
  refine List.ext_getElem? fun j => ?_
  rw [wipe_get, wipe_get]
  by_cases hj : j ∈ vs
  · simp [hj]
  · rw [if_neg hj, if_neg hj, List.getElem?_set_ne (fun e => hj (by rw [← e]; exact h))]
theorem wipe_idem {σ : St} {vs : List Nat} : wipe (wipe σ vs) vs = wipe σ vs := by
  refine List.ext_getElem? fun j => ?_
  rw [wipe_get, wipe_get]
  by_cases hj : j ∈ vs
  · simp [hj, wipe_length]
  · rw [if_neg hj, if_neg hj]
/-- targets of a comprehension: its own slots -/
def RGv (K : PySem.W.Frag) (pn : Pn) (vs : List Nat) (g : TGf) : TG := fun v σ H Q => ∃ w env d env', w.H = H ∧ w.Ok K ∧ EnvOk K pn w σ env ∧ Rep K pn w v d ∧ g d env w.S = some env' ∧ ∀ w' σ', Ext w w' → w'.S = w.S → w'.Ok K → EnvOk K pn w' σ' env' → wipe σ' vs = wipe σ vs → Q σ' w'.H
def FGv (X : Cx) (P : Pn) (vs : List Nat) (tg : Expr) (g : TGf) : Prop := PG X tg (RGv X.K P vs g)
def RGsv (K : PySem.W.Frag) (pn : Pn) (ws : List Nat) (g : TGfs) : TGs := fun vs σ H Q => ∃ w env ds env', w.H = H ∧ w.Ok K ∧ EnvOk K pn w σ env ∧ Reps K pn w vs ds ∧ g ds env w.S = some env' ∧ ∀ w' σ', Ext w w' → w'.S = w.S → w'.Ok K → EnvOk K pn w' σ' env' → wipe σ' ws = wipe σ ws → Q σ' w'.H
def FGsv (X : Cx) (P : Pn) (ws : List Nat) (ts : List Expr) (g : TGfs) : Prop := PGs X ts (RGsv X.K P ws g)
section
variable {X : Cx} {P : Pn} {vs : List Nat} {pos : Pos} {e : Expr} {es : List Expr}
theorem fgv_name {i : Nat} {x : Str} (hv : i ∈ vs) (hN : X.N.Nodup) (hi : X.N[i]? = some x) (hx : Loc X.env.scope x) (hf : X.fn x = true ∨ X.env.scope.names.lookup x = some .local := by first | exact .inl rfl | exact .inr rfl | assumption) : FGv X P vs (.Name x pos) (gN i) :=
  pgI (pg_name hN hi hx hf) fun v σ H Q ⟨w, env, d, env', hH, o, en, r, q, h⟩ => by
    subst hH
    cases q
    exact h w _ (Ext.refl w) rfl o (en.set r) (wipe_set hv)
theorem fgsv_nil : FGsv X P vs [] gsNil := pgsI pgs_nil fun us σ H Q ⟨w, env, ds, env', hH, ok, en, r, g, q⟩ => by
  subst hH
  cases r with
  | nil =>
    cases g
    exact ⟨rfl, q w σ (Ext.refl w) rfl ok en rfl⟩
  | cons _ _ => cases g
theorem fgsv_cons {g : TGf} {h : TGfs} (h1 : FGv X P vs e g) (h2 : FGsv X P vs es h) (hs : (assignEach (e :: es) X.env).map (·.2) = assign e X.env :: (assignEach es X.env).map (·.2) := by rfl) : FGsv X P vs (e :: es) (gsCons g h) :=
  pgsI (pgs_cons h1 h2 hs) fun us σ H Q ⟨w, env, ds, env', hH, ok, en, r, q, k⟩ => by
    subst hH
    cases r with
    | nil => cases q
    | @cons v d us ds r1 r2 =>
      have q : (g d env w.S).bind (fun env' => h ds env' w.S) = some env' := q
      cases g1 : g d env w.S with
      | none => rw [g1] at q; cases q
      | some env1 =>
        rw [g1] at q
        refine ⟨v, us, rfl, w, env, d, env1, rfl, ok, en, r1, g1, fun w' σ' e' s' o' en' hw => ⟨w', env1, ds, env', rfl, o', en', r2.to e', by rw [s']; exact q, fun w2 σ2 e2 s2 o2 en2 hw2 => k w2 σ2 (e'.trans e2) (s2.trans s') o2 en2 (hw2.trans hw)⟩⟩
theorem fgv_tup {k n : Nat} {g : TGfs} (hc : X.calm = true) (h : FGsv X P vs es g) (hn : (assignEach es X.env).length = n := by rfl) (hst : (assignEach es X.env).findIdx? (·.1) = none := by rfl) : FGv X P vs (.Tuple es k pos) (gTupF n g) := by
  have both : PG X (.Tuple es k pos) (fun v σ H Q => gTup X.K n (RGsv X.K P vs g) v σ H Q ∨ gUnl X.K n (RGsv X.K P vs g) v σ H Q) := ⟨fun pins s σ H v u Q I r q => by
    rcases q with q | q
    · exact (pg_tup hc h hn hst).run pins s σ H v u Q I r q
    · exact (pg_unl hc h hn hst).run pins s σ H v u Q I r q⟩
  refine pgI both fun v σ H Q ⟨w, env, d, env', hH, ok, en, r, q, kk⟩ => ?_
  subst hH
  have q : ((seqOf w.S d).bind fun ds => if ds.length = n then g ds env w.S else none) = some env' := q
  cases g1 : seqOf w.S d with
  | none => rw [g1] at q; cases q
  | some ds =>
    rw [g1] at q
    have q : (if ds.length = n then g ds env w.S else none) = some env' := q
    by_cases hl : ds.length = n
    · rw [if_pos hl] at q
      obtain ⟨a, xs, rfl, h1, rr⟩ := seq_of ok r g1
      have fin : RGsv X.K P vs g xs σ w.H Q := ⟨w, env, ds, env', rfl, ok, en, rr, q, kk⟩
      rcases h1 with h1 | h1
      · exact .inr ⟨a, xs, rfl, h1, rr.length.trans hl, fin⟩
      · exact .inl ⟨a, xs, rfl, h1, rr.length.trans hl, fin⟩
    · rw [if_neg hl] at q
      cases q
end
/-! the same heap, fewer that change -/
structure Sub (w w' : Vw) : Prop where
  H : w'.H = w.H
  mt : ∀ a, w'.mut a → w.mut a
  len : w.S.length ≤ w'.S.length
  ι : ∀ m, m < w.S.length → w'.ι m = w.ι m
section
variable {K : PySem.W.Frag} {P : Pn} {w w' : Vw}
theorem Sub.rd (s : Sub w w') {a : Addr} {o : HO} (h : Rd w.H a o ∧ ¬ w.mut a) : Rd w'.H a o ∧ ¬ w'.mut a := ⟨by rw [s.H]; exact h.1, fun q => h.2 (s.mt a q)⟩
theorem Sub.tr (s : Sub w w') {a : Addr} {xs : List V} (h : TupR w.H a xs ∧ ¬ w.mut a) : TupR w'.H a xs ∧ ¬ w'.mut a := ⟨by rw [s.H]; exact h.1, fun q => h.2 (s.mt a q)⟩
mutual
theorem Rep.sub (s : Sub w w') : ∀ {v : V} {d : D}, Rep K P w v d → Rep K P w' v d
  | _, _, .non => .non
  | _, _, .bl b => .bl b
  | _, _, .int i => .int i
  | _, _, .str x => .str x
  | _, _, .ty n => .ty n
  | _, _, .ref a => .ref a
  | _, _, .tup h r => .tup (h.imp s.tr id) (Reps.sub s r)
  | _, _, .lst h r => .lst ⟨by rw [s.H]; exact h.1, fun q => h.2 (s.mt _ q)⟩ (Reps.sub s r)
  | _, _, .fls h r => .fls (h.imp s.rd id) (Reps.sub s r)
  | _, _, .loc (m := m) h => by
    have q : w'.ι m = w.ι m := s.ι m h
    rw [← q]
    exact .loc (Nat.lt_of_lt_of_le h s.len)
  | _, _, .obj h n r => .obj (by rw [s.H]; exact h) (fun q => n (s.mt _ q)) (RepF.sub s r)
  | _, _, .exn0 h hz hf => .exn0 h hz hf
  | _, _, .exn h hc hf hd n r => .exn h hc hf (by rw [s.H]; exact hd) (fun q => n (s.mt _ q)) (RepF.sub s r)
theorem Reps.sub (s : Sub w w') : ∀ {v : List V} {d : List D}, Reps K P w v d → Reps K P w' v d
  | _, _, .nil => .nil
  | _, _, .cons h t => .cons (Rep.sub s h) (Reps.sub s t)
theorem RepF.sub (s : Sub w w') : ∀ {v : List (Str × V)} {d : List (Str × D)}, RepF K P w v d → RepF K P w' v d
  | _, _, .nil => .nil
  | _, _, .cons h t => .cons (Rep.sub s h) (RepF.sub s t)
end

end
theorem lc_coreF {K : PySem.W.Frag} {P : Pn} {W : WX} {w : Vw} {σ : St} {env : Env} {β : Type} {fi : Fi} {g : TGf} {ft : Ft} {fe : F} {vs : List Nat} {k : List D → Sto → R β} {P' : Vw → β → Prop} {Q : VK}
    (o : w.Ok K) (en : EnvOk K P w σ env) (p : Post K w ((fLcA fi g ft fe vs env w.S).bind k) P' (WP K W σ))
    (fin : ∀ w1 w2 D0 ys es, Ext w w1 → w1.Ok K → Ext w1 w2 → w1.H D0 = none → w2.Ok K → w2.H D0 = some (.lst ys) → D0 ∈ w2.Z → D0 ∉ w1.Z → Reps K P w2 ys es → Post K w1 (k es w2.S) P' (WP K W σ) → Q (.ref D0) w2.H) :
    tLc (RI K P W fi) (RGv K P vs g) (RT K P WF ft) (RE K P WF fe) vs σ w.H Q := by
  unfold fLcA at p
  rw [bind_assoc] at p
  refine ⟨w, env, rfl, o, en, p.bind.mono (fun w1 s e1 o1 p1 J walk D0 hD => ?_) fun _ _ _ _ _ q => q⟩
  refine ⟨fun i m H => ∃ w' ys acc, w'.H = H ∧ Ext w1 w' ∧ w'.Ok K ∧ D0 ∈ w'.Z ∧ w'.H D0 = some (.lst ys) ∧ Reps K P w' ys acc ∧ EnvOk K P w' (wipe σ vs) (wipeE env vs) ∧ Post K w1 ((lcS s (lcBody g ft fe (wipeE env vs)) m i acc w'.S).bind k) P' (WP K W σ),
    ⟨s.fuel w1.S, (w1.nu D0 (.lst [])).z (D0 :: w1.Z), [], [], rfl, hide_ext hD, hide_ok o1 hD, List.mem_cons_self, upd_same, .nil, wipeE_ok ((en.to e1).to (hide_ext hD)) vs, p1⟩, ?_⟩
  rintro i m _ ⟨w', ys, acc, rfl, e', o', hz, hl, rr, en', pp⟩
  obtain ⟨hstop, hgo⟩ := walk w' e' o' i
  have nl : ¬ w'.loc D0 := fun ⟨j, hj, ej⟩ => o'.hzl j hj (by rw [ej]; exact hz)
  unfold lcS at pp
  cases q : s.next w'.S i with
  | none => rw [q] at pp; exact pp.elim
  | some q1 =>
    rw [q] at pp
    cases q1 with
    | none =>
      refine .inl ⟨hstop q, ?_⟩
      have nz : D0 ∉ w1.Z := fun h => by
        obtain ⟨u, hu⟩ := o1.hz D0 h
        rw [hD] at hu
        cases hu
      exact fin w1 w' D0 ys acc e1 o1 e' hD o' hl hz nz rr pp
    | some d =>
      obtain ⟨go, yld⟩ := hgo d q
      cases m with
      | zero => exact pp.elim
      | succ m =>
        refine .inr ⟨go, fun H' => ∃ w' ys acc, w'.H = H' ∧ Ext w1 w' ∧ w'.Ok K ∧ D0 ∈ w'.Z ∧ w'.H D0 = some (.lst ys) ∧ Reps K P w' ys acc ∧ EnvOk K P w' (wipe σ vs) (wipeE env vs) ∧ Post K w1 ((lcS s (lcBody g ft fe (wipeE env vs)) m (i + 1) acc w'.S).bind k) P' (WP K W σ),
          fun H' h => ⟨m, Nat.lt_succ_self m, h⟩, fun x H' hy => ?_⟩
        obtain ⟨w3, rfl, e3, s3, o3, r3⟩ := yld x H' hy
        have pp : Post K w1 (((lcBody g ft fe (wipeE env vs) d w'.S).bind fun o S1 => match o with
          | some z => if acc.length < sizeLine then lcS s (lcBody g ft fe (wipeE env vs)) m (i + 1) (acc ++ [z]) S1 else .bad
          | none => lcS s (lcBody g ft fe (wipeE env vs)) m (i + 1) acc S1).bind k) P' (WP K W σ) := pp
        cases qg : g d (wipeE env vs) w'.S with
        | none =>
          have hb : lcBody g ft fe (wipeE env vs) d w'.S = .bad := by unfold lcBody; rw [qg]
          rw [hb] at pp
          exact pp.elim
        | some env3 =>
          have hb : lcBody g ft fe (wipeE env vs) d w'.S = (ft env3 w'.S).noX.bind fun b S1 => if b = true then (fe env3 S1).noX.bind fun z S2 => .ok (some z) S2 else .ok none S1 := by unfold lcBody; rw [qg]
          rw [hb] at pp
          refine ⟨w3, wipeE env vs, d, env3, rfl, o3, en'.to e3, r3, by rw [s3]; exact qg, fun w4 σ4 e4 s4 o4 en4 hw4 => ⟨hw4.trans wipe_idem, ?_⟩⟩
          have s4' : w4.S = w'.S := s4.trans s3
          refine ⟨w4, env3, rfl, o4, en4, ?_⟩
          rw [s4']
          have e4' := e3.trans e4
          cases qt : ft env3 w'.S with
          | bad => rw [qt] at pp; exact pp.elim
          | exc C fs S1 => rw [qt] at pp; exact pp.elim
          | ok b S1 =>
            rw [qt] at pp
            intro w5 e5 s5 o5
            subst s5
            have e5' := e4'.trans e5
            cases b with
            | false =>
              exact ⟨w5, ys, acc, rfl, e'.trans e5', o5, e5'.Z.1 _ hz, e5'.keep _ _ hl nl, rr.to e5', en'.to e5', pp⟩
            | true =>
              refine ⟨w5, env3, rfl, o5, en4.to e5, ?_⟩
              have pp : Post K w1 ((((fe env3 w5.S).noX.bind fun z S2 => R.ok (some z) S2).bind fun o S1 => match o with
                | some z => if acc.length < sizeLine then lcS s (lcBody g ft fe (wipeE env vs)) m (i + 1) (acc ++ [z]) S1 else .bad
                | none => lcS s (lcBody g ft fe (wipeE env vs)) m (i + 1) acc S1).bind k) P' (WP K W σ) := pp
              cases qe : fe env3 w5.S with
              | bad => rw [qe] at pp; exact pp.elim
              | exc C fs S1 => rw [qe] at pp; exact pp.elim
              | ok z S2 =>
                rw [qe] at pp
                have pp : Post K w1 ((if acc.length < sizeLine then lcS s (lcBody g ft fe (wipeE env vs)) m (i + 1) (acc ++ [z]) S2 else R.bad).bind k) P' (WP K W σ) := pp
                intro w6 e6 s6 o6 y ry
                subst s6
                have e6' := e5'.trans e6
                have hz6 := e6'.Z.1 _ hz
                by_cases hlen : acc.length < sizeLine
                · rw [if_pos hlen] at pp
                  refine ⟨ys, e6'.keep _ _ hl nl, by rw [rr.length]; exact hlen, w6.nu D0 (.lst (ys ++ [y])), ys ++ [y], acc ++ [z], rfl, (e'.trans e6').zu hD, o6.zu hz6, hz6, upd_same, ((rr.to e6').append (.cons ry .nil)).zu hz6, ?_, pp⟩
                  refine ⟨(en'.to e6').1, fun j d' q => ?_⟩
                  obtain ⟨u, h1, h2⟩ := (en'.to e6').2 j d' q
                  exact ⟨u, h1, h2.zu hz6⟩
                · rw [if_neg hlen] at pp
                  exact pp.elim
section
variable {K : PySem.W.Frag} {P : Pn} {w1 w2 : Vw} {D0 : Addr} {ys : List V} {es : List D}
theorem lc_end (e2 : Ext w1 w2) (hD : w1.H D0 = none) (o2 : w2.Ok K) (hl : w2.H D0 = some (.lst ys)) (hz : D0 ∈ w2.Z) (nz : D0 ∉ w1.Z) (rr : Reps K P w2 ys es) :
    Ext w1 (w2.z w1.Z) ∧ (w2.z w1.Z).Ok K ∧ Rep K P (w2.z w1.Z) (.ref D0) (.lst es) := by
  have s : Sub w2 (w2.z w1.Z) := ⟨rfl, fun a q => q.imp id (e2.Z.1 a), Nat.le_refl _, fun _ _ => rfl⟩
  refine ⟨e2.unz, o2.unz e2.Z.1, .lst ⟨hl, fun q => ?_⟩ (rr.sub s)⟩
  rcases q with ⟨j, hj, ej⟩ | q
  · exact o2.hzl j hj (by
      have ej' : w2.ι j = D0 := ej
      rw [ej']
      exact hz)
  · exact nz q
theorem lc_val {W' : Vw → Addr → List (Str × D) → Prop} {Q : VK} (e2 : Ext w1 w2) (hD : w1.H D0 = none) (o2 : w2.Ok K) (hl : w2.H D0 = some (.lst ys)) (hz : D0 ∈ w2.Z) (nz : D0 ∉ w1.Z) (rr : Reps K P w2 ys es)
    (pp : Post K w1 (.ok (.lst es) w2.S) (fun w' d => ∀ v, Rep K P w' v d → Q v w'.H) W') : Q (.ref D0) w2.H := by
  obtain ⟨e3, o3, r3⟩ := lc_end e2 hD o2 hl hz nz rr
  exact pp (w2.z w1.Z) e3 rfl o3 _ r3
/-- the made list as a cell -/
abbrev Vw.lcv (w1 w2 : Vw) (D0 : Addr) (es : List D) : Vw := { ι := fun m => if m = w2.S.length then D0 else w2.ι m, Z := w1.Z, H := w2.H, S := w2.S ++ [.lst es] }
theorem lc_endL (e2 : Ext w1 w2) (hD : w1.H D0 = none) (o2 : w2.Ok K) (hl : w2.H D0 = some (.lst ys)) (hz : D0 ∈ w2.Z) (nz : D0 ∉ w1.Z) (rr : Reps K [] w2 ys es) :
    Ext w1 (Vw.lcv w1 w2 D0 es) ∧ (Vw.lcv w1 w2 D0 es).Ok K ∧ Rep K [] (Vw.lcv w1 w2 D0 es) (.ref D0) (.loc w2.S.length) := by
  have len : (Vw.lcv w1 w2 D0 es).S.length = w2.S.length + 1 := by simp
  have ne : ∀ m, m < w2.S.length → w2.ι m ≠ D0 := fun m hm e => o2.hzl m hm (by rw [e]; exact hz)
  have s : Sub w2 (Vw.lcv w1 w2 D0 es) := ⟨rfl, fun a q => by
    rcases q with ⟨j, hj, ej⟩ | q
    · have ej' : (if j = w2.S.length then D0 else w2.ι j) = a := ej
      by_cases h : j = w2.S.length
      · rw [if_pos h] at ej'
        exact .inr (by rw [← ej']; exact hz)
      · rw [if_neg h] at ej'
        exact .inl ⟨j, by rw [len] at hj; omega, ej'⟩
    · exact .inr (e2.Z.1 _ q), by rw [len]; omega, fun m hm => if_neg (Nat.ne_of_lt hm)⟩
  refine ⟨⟨by rw [len]; have := e2.len; omega, fun m hm => ?_, fun m h1 h2 => ?_, ⟨fun _ h => h, fun _ h => .inl h⟩, e2.keep, e2.live⟩, ⟨fun i j hi hj e => ?_, fun z h => ?_, fun m hm q => ?_, fun m c q => ?_⟩, ?_⟩
  · have : m < w2.S.length := Nat.lt_of_lt_of_le hm e2.len
    show (if m = w2.S.length then D0 else w2.ι m) = w1.ι m
    rw [if_neg (Nat.ne_of_lt this)]
    exact e2.ι m hm
  · show w1.H (if m = w2.S.length then D0 else w2.ι m) = none
    by_cases h : m = w2.S.length
    · rw [if_pos h]; exact hD
    · rw [if_neg h]
      rw [len] at h2
      exact e2.new m h1 (by omega)
  · rw [len] at hi hj
    have e' : (if i = w2.S.length then D0 else w2.ι i) = (if j = w2.S.length then D0 else w2.ι j) := e
    by_cases h1 : i = w2.S.length <;> by_cases h2 : j = w2.S.length
    · omega
    · rw [if_pos h1, if_neg h2] at e'
      exact absurd e'.symm (ne j (by omega))
    · rw [if_neg h1, if_pos h2] at e'
      exact absurd e' (ne i (by omega))
    · rw [if_neg h1, if_neg h2] at e'
      exact o2.inj i j (by omega) (by omega) e'
  · exact o2.hz z (e2.Z.1 z h)
  · rw [len] at hm
    have q' : (if m = w2.S.length then D0 else w2.ι m) ∈ w1.Z := q
    by_cases h1 : m = w2.S.length
    · rw [if_pos h1] at q'
      exact nz q'
    · rw [if_neg h1] at q'
      exact o2.hzl m (by omega) (e2.Z.1 _ q')
  · have q' : (w2.S ++ [Cell.lst es])[m]? = some c := q
    show CellOk K [] (Vw.lcv w1 w2 D0 es) (if m = w2.S.length then D0 else w2.ι m) c
    by_cases h1 : m = w2.S.length
    · subst h1
      rw [List.getElem?_append_right (Nat.le_refl _)] at q'
      simp at q'
      subst q'
      rw [if_pos rfl]
      exact ⟨ys, hl, rr.sub s⟩
    · have hm : m < w2.S.length := by
        have := (List.getElem?_eq_some_iff.mp q').1
        rw [List.length_append] at this
        simp at this
        omega
      rw [List.getElem?_append_left hm] at q'
      rw [if_neg h1]
      have cc := o2.cell m c q'
      cases c with
      | lst ds => obtain ⟨xs, h, r⟩ := cc; exact ⟨xs, h, r.sub s⟩
      | ins C gs => obtain ⟨dx, fs, h, r⟩ := cc; exact ⟨dx, fs, h, r.sub s⟩
  · have z : (Vw.lcv w1 w2 D0 es).ι w2.S.length = D0 := if_pos rfl
    have r := Rep.loc (K := K) (pn := []) (w := Vw.lcv w1 w2 D0 es) (m := w2.S.length) (by rw [len]; omega)
    rw [z] at r
    exact r
theorem lc_loc {W' : Vw → Addr → List (Str × D) → Prop} {Q : VK} (e2 : Ext w1 w2) (hD : w1.H D0 = none) (o2 : w2.Ok K) (hl : w2.H D0 = some (.lst ys)) (hz : D0 ∈ w2.Z) (nz : D0 ∉ w1.Z) (rr : Reps K [] w2 ys es)
    (pp : Post K w1 (.ok (.loc w2.S.length) (w2.S ++ [.lst es])) (fun w' d => ∀ v, Rep K [] w' v d → Q v w'.H) W') : Q (.ref D0) w2.H := by
  obtain ⟨e3, o3, r3⟩ := lc_endL e2 hD o2 hl hz nz rr
  exact pp (Vw.lcv w1 w2 D0 es) e3 rfl o3 _ r3
end
abbrev ownS (own : List (Str × Nat)) : List Nat := own.map (·.2)
section
variable {X : Cx} {P : Pn} {W : WX} {elt tg iter : Expr} {ifs : List Expr} {scope : Scope} {own : List (Str × Nat)} {pos : Pos} {fi : Fi} {g : TGf} {ft : Ft} {fe : F}
theorem fe_lc (hc : X.calm = true) (hN : X.N.Nodup) (hi : FI X P W tg iter fi) (ok : BlkOk X.N X.env.scope scope own)
    (hg : ∀ (s : Shared) (H : Hp) (C : Addr) (cl : List (Str × Addr)) (fp : List Addr), FGv (X.blk s H scope (compEnvC scope cl C X.env) fp) P (ownS own) tg g)
    (ht : ∀ (s : Shared) (H : Hp) (C : Addr) (cl : List (Str × Addr)) (fp : List Addr), FTs (X.blk s H scope (compEnvC scope cl C X.env) fp) P WF ifs ft)
    (he : ∀ (s : Shared) (H : Hp) (C : Addr) (cl : List (Str × Addr)) (fp : List Addr), FE (X.blk s H scope (compEnvC scope cl C X.env) fp) P WF elt fe) (hs : ∀ x, foldedSetIterable iter X.env x = pure x := by intro _; rfl) :
    FE X P W (.ListComp elt [⟨tg, iter, ifs, 0⟩] scope pos) (fLc fi g ft fe (ownS own)) :=
  peI (pe_lc (wi := RI X.K P W fi) (g := RGv X.K P (ownS own) g) (tt := RT X.K P WF ft) (te := RE X.K P WF fe) hc hN hi ok hg ht he hs) fun σ H Q ⟨w, env, hH, o, en, p⟩ => by
    subst hH
    exact lc_coreF o en p fun w1 w2 D0 ys es e1 o1 e2 hD o2 hl hz nz rr pp => lc_val e2 hD o2 hl hz nz rr pp
theorem fe_lcL (hpn : P = []) (hc : X.calm = true) (hN : X.N.Nodup) (hi : FI X P W tg iter fi) (ok : BlkOk X.N X.env.scope scope own)
    (hg : ∀ (s : Shared) (H : Hp) (C : Addr) (cl : List (Str × Addr)) (fp : List Addr), FGv (X.blk s H scope (compEnvC scope cl C X.env) fp) P (ownS own) tg g)
    (ht : ∀ (s : Shared) (H : Hp) (C : Addr) (cl : List (Str × Addr)) (fp : List Addr), FTs (X.blk s H scope (compEnvC scope cl C X.env) fp) P WF ifs ft)
    (he : ∀ (s : Shared) (H : Hp) (C : Addr) (cl : List (Str × Addr)) (fp : List Addr), FE (X.blk s H scope (compEnvC scope cl C X.env) fp) P WF elt fe) (hs : ∀ x, foldedSetIterable iter X.env x = pure x := by intro _; rfl) :
    FE X P W (.ListComp elt [⟨tg, iter, ifs, 0⟩] scope pos) (fLcL fi g ft fe (ownS own)) := by
  subst hpn
  exact peI (pe_lc (wi := RI X.K [] W fi) (g := RGv X.K [] (ownS own) g) (tt := RT X.K [] WF ft) (te := RE X.K [] WF fe) hc hN hi ok hg ht he hs) fun σ H Q ⟨w, env, hH, o, en, p⟩ => by
    subst hH
    exact lc_coreF o en p fun w1 w2 D0 ys es e1 o1 e2 hD o2 hl hz nz rr pp => lc_loc e2 hD o2 hl hz nz rr pp
/-- y = [..] on one line, y a local -/
theorem fs_setLcG {fA : SF} {i : Nat} {y : Str} {py spos : Pos} {k : List D → Sto → R D} (hc : X.calm = true) (hN : X.N.Nodup) (hy : X.N[i]? = some y) (hyl : X.env.scope.names.lookup y = some .local)
    (hsw : swapsWith (.ListComp elt [⟨tg, iter, ifs, 0⟩] scope pos) (some (.Name y py)) spos.line X.env = pure true) (hi : FI X P W tg iter fi) (ok : BlkOk X.N X.env.scope scope own)
    (hg : ∀ (s : Shared) (H : Hp) (C : Addr) (cl : List (Str × Addr)) (fp : List Addr), FGv (X.blk s H scope (compEnvC scope cl C X.env) fp) P (ownS own) tg g)
    (ht : ∀ (s : Shared) (H : Hp) (C : Addr) (cl : List (Str × Addr)) (fp : List Addr), FTs (X.blk s H scope (compEnvC scope cl C X.env) fp) P WF ifs ft)
    (he : ∀ (s : Shared) (H : Hp) (C : Addr) (cl : List (Str × Addr)) (fp : List Addr), FE (X.blk s H scope (compEnvC scope cl C X.env) fp) P WF elt fe)
    (hk : ∀ (w1 w2 : Vw) (D0 : Addr) (ys : List V) (es : List D) (P' : Vw → D → Prop) (W' : Vw → Addr → List (Str × D) → Prop), Ext w1 w2 → w1.H D0 = none → w2.Ok X.K → w2.H D0 = some (.lst ys) → D0 ∈ w2.Z → D0 ∉ w1.Z → Reps X.K P w2 ys es → Post X.K w1 (k es w2.S) P' W' →
      ∃ w3 z, w3.H = w2.H ∧ P' w3 z ∧ Ext w1 w3 ∧ w3.Ok X.K ∧ Rep X.K P w3 (.ref D0) z) (hs : ∀ x, foldedSetIterable iter X.env x = pure x := by intro _; rfl) :
    FS X P W (.Assign [.Name y py] (.ListComp elt [⟨tg, iter, ifs, 0⟩] scope pos) spos) (sAsg (fun env S => (fLcA fi g ft fe (ownS own) env S).bind k) (gN i)) :=
  psI (ps_setLc (wi := RI X.K P W fi) (g := RGv X.K P (ownS own) g) (tt := RT X.K P WF ft) (te := RE X.K P WF fe) hc hN hy hyl hsw hi ok hg ht he hs) fun D σ H ⟨w, env, hH, o, en, p⟩ => by
    subst hH
    have p' : Post X.K w ((fLcA fi g ft fe (ownS own) env w.S).bind k) (fun w1 d => PostS X.K P w1 (.fl (.nx (env.set i (some d))) w1.S) D W) (WP X.K W σ) := Post.ofS en p
    refine lc_coreF o en p' fun w1 w2 D0 ys es e1 o1 e2 hD o2 hl hz nz rr pp => ?_
    obtain ⟨w3, z, h1, h2, e3, o3, r3⟩ := hk w1 w2 D0 ys es _ _ e2 hD o2 hl hz nz rr pp
    rw [← h1]
    exact h2 w3 _ (Ext.refl w3) rfl o3 (((en.to e1).to e3).set r3)
end
end FL
set_option maxRecDepth 100000
set_option maxHeartbeats 2000000
namespace FL
open PySem PySem.Spec PyProof.Rows L2
/-! ### a def of the text is called -/
def fCallH (fn : Fn) (fs : Fa) : F := fun env S => (fs env S).bind fun ds S1 => (fn ds S1).noX
def fCall (fn : Fn) (dd : List D) (fs : Fa) : F := fun env S => (fs env S).bind fun ds S1 => fn (ds ++ dd) S1
theorem ra_known {K : PySem.W.Frag} {P : Pn} {W : WX} {w : Vw} {σ : St} {env : Env} {fs : Fa} {m : Nat} [L : Len fs m] {β : Type} {k : List D → Sto → R β} {P' : Vw → β → Prop} {Q : List V → Hp → Prop} (o : w.Ok K) (en : EnvOk K P w σ env) (h : Post K w ((fs env w.S).bind k) P' (WP K W σ))
    (c : ∀ w1 v d, Ext w w1 → w1.Ok K → EnvOk K P w1 σ env → Reps K P w1 v d → d.length = m → Post K w1 (k d w1.S) P' (WP K W σ) → Q v w1.H) : RA K P W fs σ w.H Q := by
  refine ⟨w, env, rfl, o, en, ?_⟩
  cases q : fs env w.S with
  | bad => rw [q] at h; exact h.elim
  | exc C gs S => rw [q] at h; exact h
  | ok ds S =>
    rw [q] at h
    intro w1 e1 s1 o1 vs r
    subst s1
    exact c w1 vs ds e1 o1 (en.to e1) r (L.len _ _ _ _ q) (Post.to (show Post K w (k ds w1.S) P' (WP K W σ) from h) e1)
section
variable {X : Cx} {P : Pn} {W : WX} {a : Expr} {es : List Expr} {fs : Fa} {fn : Fn} {k n m : Nat} {f : Addr} {fd : FuncData} {ps : List Str} {dvs : List V} {dd : List D} {ds : List Value} {x : Str} {p pos : Pos}
/-- the defaults as data -/
structure Dfl (K : PySem.W.Frag) (dvs : List V) (dd : List D) : Prop where
  rep : ∀ (w : Vw), Reps K [] w dvs dd
theorem Dfl.nil {K : PySem.W.Frag} : Dfl K [] [] := ⟨fun _ => .nil⟩
theorem fe_call [L : Len fs m] (hpn : P = []) (F : FnOk X.prog X.w X.K X.mg X.base (L2.CX X.prog X.w) k f fd ps (spF X.K n fn)) (hr : Room k X.A) (hg : Gl X x) (hm : X.mg x = some (.ref f)) (hk : PySem.W.keepIn X.K (.ref f) = true) (hb : Binds X.K fd ps ds) (hd : Vals dvs ds) (hdd : Dfl X.K dvs dd) (tk : Takes X W)
    (ha : FA X P W (a :: es) fs) (hn : m + dd.length = n := by rfl) (hdb : (x == ("__debug__" : Str)) = false := by decide) (he : starEach (a :: es) X.env = (false, eval a X.env) :: starEach es X.env := by rfl) (hpl : (backTo pos (starEach es X.env)).any (·.1) = false := by rfl) :
    FE X P W (.Call (.Name x p) (a :: es) [] pos) (fCall fn dd fs) := by
  subst hpn
  refine peI (pe_callSD F hr hg hm hk hb hd (fun σ => passAt tk σ) ha hdb he hpl) fun σ H Q ⟨w, env, hH, o, en, p⟩ => ?_
  subst hH
  refine ra_known o en p fun w1 vs ds e1 o1 en1 r1 hl p1 => ?_
  exact ⟨w1, ds ++ dd, rfl, o1, r1.append (hdd.rep w1), by rw [List.length_append, hl]; exact hn, p1⟩
/-! ### exceptions that are made -/
/-- the __init__ of an own error: self.f = x; self.g = y -/
def spIni2 (C : Addr) (f g : Str) : Sp := fun vs H Q _ => ∃ (a : Addr) (x y : V), vs = [.ref a, x, y] ∧ H a = some (exo a C none) ∧ ∀ dx, H dx = none → dx ≠ a → Q .non (upd (upd (upd H dx (exd dx [(f, x)])) a (exo a C (some dx))) dx (exd dx [(g, y), (f, x)]))
def spIni1 (C : Addr) (f : Str) : Sp := fun vs H Q _ => ∃ (a : Addr) (x : V), vs = [.ref a, x] ∧ H a = some (exo a C none) ∧ ∀ dx, H dx = none → dx ≠ a → Q .non (upd (upd H dx (exd dx [(f, x)])) a (exo a C (some dx)))
def sRaise (C : Addr) (mk : List D → Option (List (Str × D))) (fs : Fa) : SF := fun env S => (fs env S).bindS env fun ds S1 => match mk ds with
  | some gs => .exc env C gs S1
  | none => .bad
def mk2 (f g : Str) : List D → Option (List (Str × D)) := fun ds => match ds with
  | [x, y] => some [(g, y), (f, x)]
  | _ => none
def mk1 (f : Str) : List D → Option (List (Str × D)) := fun ds => match ds with
  | [x] => some [(f, x)]
  | _ => none
theorem heap2 {H : Hp} {a dx : Addr} {u1 u2 u3 u4 u5 : HO} (ha : H a = none) (hne : dx ≠ a) : upd (del (upd (upd (upd (upd H a u1) dx u2) a u3) dx u4) a) dx u5 = upd H dx u5 := by
  funext b
  by_cases h1 : b = dx
  · subst h1; rw [upd_same, upd_same]
  · rw [upd_ne h1, upd_ne h1]
    by_cases h2 : b = a
    · subst h2; rw [del_same, ha]
    · rw [del_ne h2, upd_ne h1, upd_ne h2, upd_ne h1, upd_ne h2]
/-- what a class of errors must have -/
structure ErrC (K : PySem.W.Frag) (mg : Str → Option Value) (x : Str) (C fI : Addr) : Prop where
  oex : OexC K C
  gC : mg x = some (.ref C)
  iC : PySem.W.findIn K (.ref C) "__init__" = some (some (.ref fI))
  tI : PySem.W.typeIn K (.ref fI) = some (.type "function")
theorem fs_raise2 {C fI : Addr} {pos2 : Pos} {f g : Str} (hpn : P = []) (hc : X.calm = true) (T : ErrC X.K X.mg x C fI) (F1 : FnOk X.prog X.w X.K X.mg X.base CX0 k fI fd ps (spIni2 C f g)) (hr : Room (k + 1) X.A) (hb : Binds X.K fd ps []) (tk : Takes X W) (hg : Gl X x) [L : Len fs 2] (ha : FA X P W (a :: es) fs)
    (hdb : (x == ("__debug__" : Str)) = false := by decide) (he : starEach (a :: es) X.env = (false, eval a X.env) :: starEach es X.env := by rfl) (hpl : (backTo pos (starEach es X.env)).any (·.1) = false := by rfl) :
    FS X P W (.Raise (some (.Call (.Name x p) (a :: es) [] pos)) none pos2) (sRaise C (mk2 f g) fs) := by
  subst hpn
  refine psI (ps_raise hc tk (pmk_oex T.oex T.iC T.tI F1 hr hb .nil pass0 hg T.gC ha hdb he hpl)) fun D σ H ⟨w, env, hH, o, en, p⟩ => ?_
  subst hH
  refine ⟨w, env, rfl, o, en, ?_⟩
  have p' := Post.ofS en p
  refine p'.mono (fun w1 ds e1 o1 p1 vs r1 => ?_) fun _ _ _ _ _ q => q
  cases r1 with
  | nil => exact p1.elim
  | @cons x dx' _ _ r1 rr =>
    cases rr with
    | nil => exact p1.elim
    | @cons y dy _ _ r2 rr =>
      cases rr with
      | cons _ _ => exact p1.elim
      | nil =>
        refine ⟨by show 2 ≤ 1000; decide, fun a0 ha0 => ⟨a0, x, y, rfl, upd_same, fun dx hdx hne => ⟨rfl, dx, [(g, y), (f, x)], ?_, upd_same, ?_, ?_⟩⟩⟩
        · rw [upd_ne (Ne.symm hne), upd_same]
        · rw [upd_ne hne] at hdx
          exact hdx
        · show W (.ref C) (some dx) σ (upd (del (upd (upd (upd (upd w1.H a0 (exo a0 C none)) dx (exd dx [(f, x)])) a0 (exo a0 C (some dx))) dx (exd dx [(g, y), (f, x)])) a0) dx (.xd [(g, y), (f, x)]))
          rw [heap2 ha0 hne]
          rw [upd_ne hne] at hdx
          have e2 := Vw.nu_ext (w := w1) (u := .xd [(g, y), (f, x)]) hdx
          exact p1 (w1.nu dx (.xd [(g, y), (f, x)])) σ e2 rfl (o1.nu hdx) ((en.to e1).to e2) (some dx) (.inr ⟨dx, _, rfl, upd_same, o1.fresh hdx, .cons (r2.to e2) (.cons (r1.to e2) .nil)⟩)
/-! ### try: body, except T as e: suite -/
mutual
def D.nox : D → Bool
  | .tup ds => noxs ds
  | .lst ds => noxs ds
  | .fls ds => noxs ds
  | .obj _ fs => noxf fs
  | .exn _ _ => false
  | _ => true
def noxs : List D → Bool
  | [] => true
  | d :: ds => d.nox && noxs ds
def noxf : List (Str × D) → Bool
  | [] => true
  | d :: ds => d.2.nox && noxf ds
end

mutual
theorem Rep.nox {K : PySem.W.Frag} {w : Vw} : ∀ {v : V} {d : D}, Rep K P w v d → d.nox = true → Rep K [] w v d
  | _, _, .non, _ => .non
  | _, _, .bl b, _ => .bl b
  | _, _, .int i, _ => .int i
  | _, _, .str x, _ => .str x
  | _, _, .ty n, _ => .ty n
  | _, _, .ref a, _ => .ref a
  | _, _, .tup h r, p => .tup h (Reps.nox r (by unfold D.nox at p; exact p))
  | _, _, .lst h r, p => .lst h (Reps.nox r (by unfold D.nox at p; exact p))
  | _, _, .fls h r, p => .fls h (Reps.nox r (by unfold D.nox at p; exact p))
  | _, _, .loc h, _ => .loc h
  | _, _, .obj h n r, p => .obj h n (RepF.nox r (by unfold D.nox at p; exact p))
  | _, _, .exn0 h hz hf, p => by unfold D.nox at p; cases p
  | _, _, .exn h hz hf hd n r, p => by unfold D.nox at p; cases p
theorem Reps.nox {K : PySem.W.Frag} {w : Vw} : ∀ {v : List V} {d : List D}, Reps K P w v d → noxs d = true → Reps K [] w v d
  | _, _, .nil, _ => .nil
  | _, _, .cons h t, p => by
    unfold noxs at p
    obtain ⟨p1, p2⟩ := Bool.and_eq_true_iff.mp p
    exact .cons (Rep.nox h p1) (Reps.nox t p2)
theorem RepF.nox {K : PySem.W.Frag} {w : Vw} : ∀ {v : List (Str × V)} {d : List (Str × D)}, RepF K P w v d → noxf d = true → RepF K [] w v d
  | _, _, .nil, _ => .nil
  | _, _, .cons h t, p => by
    unfold noxf at p
    obtain ⟨p1, p2⟩ := Bool.and_eq_true_iff.mp p
    exact .cons (Rep.nox h p1) (RepF.nox t p2)
end

/-- behind a suite: what holds the exception is forgotten -/
def dropX (env : Env) : Env := env.map fun o => o.bind fun d => if d.nox then some d else none
theorem dropX_ok {K : PySem.W.Frag} {w : Vw} {σ : St} {env : Env} (en : EnvOk K P w σ env) : EnvOk K [] w σ (dropX env) := by
  refine ⟨by unfold dropX; rw [List.length_map]; exact en.1, fun i d q => ?_⟩
  unfold dropX at q
  rw [List.getElem?_map] at q
  cases g : env[i]? with
  | none => rw [g] at q; cases q
  | some o =>
    rw [g] at q
    cases o with
    | none => cases q
    | some d0 =>
      have q : some (if d0.nox then some d0 else none) = some (some d) := q
      by_cases h : d0.nox = true
      · rw [if_pos h] at q
        cases q
        obtain ⟨v, h1, h2⟩ := en.2 i d g
        exact ⟨v, h1, h2.nox h⟩
      · rw [if_neg h] at q
        cases q
def sSuite (i : Nat) (r : RS) : RS := match r with
  | .fl (.nx env) S => .fl (.nx (dropX (env.set i none))) S
  | .fl (.rt d) S => if d.nox = true then .fl (.rt d) S else .bad
  | .fl (.bk env) S => .fl (.bk (dropX (env.set i none))) S
  | .fl (.ct env) S => .fl (.ct (dropX (env.set i none))) S
  | _ => .bad
/-- ex: which classes of errors are caught -/
def sTry (ex : List (Addr × Bool)) (g : SF) (i : Nat) (h : SF) : SF := fun env S => match g env S with
  | .exc env' C fs S' => (match ex.lookup C with
    | some true => sSuite i (h (env'.set i (some (.exn C fs))) S')
    | some false => .exc env' C fs S'
    | none => .bad)
  | r => r
theorem lookup_memA {α : Type} {C : Addr} {b : α} : ∀ {l : List (Addr × α)}, l.lookup C = some b → (C, b) ∈ l
  | [], h => by cases h
  | (c, x) :: l, h => by
    unfold List.lookup at h
    cases q : (C == c) with
    | true =>
      rw [q] at h
      cases h
      rw [beq_iff_eq.mp q]
      exact List.mem_cons_self
    | false => rw [q] at h; exact List.mem_cons_of_mem _ (lookup_memA h)
theorem fs_try {nm : Str} {c : Value} {i : Nat} {body suite : List Stmt} {b₀ : Stmt} {np pos' : Pos} {g h : SF} {ex : List (Addr × Bool)} (hpn : P = []) (hs : X.stack = X.env :: X.outer) (hf : X.env.frame = some X.env.locals) (hN : X.N.Nodup) (hi : X.N[i]? = some nm) (hln : X.env.kindOf nm = some .local) (hc : Names X x c) (tk : Takes X W)
    (hex : ∀ q ∈ ex, PySem.W.exmOne X.K (.ref q.1) c = some q.2)
    (hb : ∀ (W' : WX) (pn : List (Addr × Obj)) (xe : Value → Shared → Prop), Takes (X.tr pn xe) W' → PassesOwn (model X.prog X.w) X.A X.env xe → FSs (X.tr pn xe) [] W' body g)
    (hsu : ∀ (a : Addr) (oe : Obj) (pn : List (Addr × Obj)), (∃ vs, oe.data = .fields vs) → FSs (X.suite a ((a, oe) :: pn)) [(a, oe)] WF (b₀ :: suite) h) :
    FS X P W (.Try body [.ExceptHandler (some (.Name x np)) (some nm) (b₀ :: suite) pos'] [] [] pos) (sTry ex g i h) := by
  subst hpn
  refine psI (ps_try_as (i := i) (tb := fun W' => RSt X.K [] W' g) (ts := fun a cls d D σ H => ∀ oe, Zc cls d oe → (∃ vs, oe.data = .fields vs) → RSt X.K [(a, oe)] WF h D σ H) (Wout := W) hs hf hN hi hln hc tk hb
    (fun a oe cls d pn hz hf => pssI (hsu a oe pn hf) fun D σ H q => q oe hz hf)) fun D σ H ⟨w, env, hH, o, en, p⟩ => ?_
  subst hH
  refine ⟨w, env, rfl, o, en, ?_⟩
  unfold sTry at p
  cases q : g env w.S with
  | bad => rw [q] at p; exact p
  | fl f S => rw [q] at p; cases f <;> exact p
  | exc env' C fs S' =>
    rw [q] at p
    have p : PostS X.K [] w (match ex.lookup C with
      | some true => sSuite i (h (env'.set i (some (.exn C fs))) S')
      | some false => .exc env' C fs S'
      | none => .bad) D W := p
    intro w' σ' e' s' o' en' dA a'
    subst s'
    cases l : ex.lookup C with
    | none => rw [l] at p; exact p.elim
    | some b =>
      refine ⟨b, hex (C, b) (lookup_memA l), fun hb a ha oe hz hf => ?_, fun hb => ?_⟩
      · subst hb
        rw [l] at p
        have p : PostS X.K [] w (sSuite i (h (env'.set i (some (.exn C fs))) w'.S)) D W := p
        have up : ∀ q ∈ ([] : Pn), q ∈ [(a, oe)] := fun q hq => by cases hq
        have rx : Rep X.K [(a, oe)] w' (.ref a) (.exn C fs) := by
          rcases a' with ⟨rfl, rfl⟩ | ⟨dd, gs, rfl, h1, h2, h3⟩
          · exact .exn0 List.mem_cons_self hz hf
          · exact .exn List.mem_cons_self hz hf h1 h2 (h3.ext (Ext.refl w') up)
        have en2 : EnvOk X.K [(a, oe)] w' (σ'.set i (some (.ref a))) (env'.set i (some (.exn C fs))) :=
          EnvOk.set ⟨en'.1, fun j d q => by
            obtain ⟨v, h1, h2⟩ := en'.2 j d q
            exact ⟨v, h1, h2.ext (Ext.refl w') up⟩⟩ rx
        refine ⟨w', _, rfl, o', en2, ?_⟩
        have p := p.to e'
        cases qh : h (env'.set i (some (.exn C fs))) w'.S with
        | bad => rw [qh] at p; exact p.elim
        | exc _ _ _ _ => rw [qh] at p; exact p.elim
        | fl f S =>
          cases f with
          | nx env2 =>
            rw [qh] at p
            exact fun w2 σ2 e2 s2 o2 en2 => p w2 _ e2 s2 o2 (dropX_ok en2.drop1)
          | bk env2 =>
            rw [qh] at p
            exact fun w2 σ2 e2 s2 o2 en2 => p w2 _ e2 s2 o2 (dropX_ok en2.drop1)
          | ct env2 =>
            rw [qh] at p
            exact fun w2 σ2 e2 s2 o2 en2 => p w2 _ e2 s2 o2 (dropX_ok en2.drop1)
          | rt d =>
            rw [qh] at p
            have p : PostS X.K [] w' (if d.nox = true then .fl (.rt d) S else .bad) D W := p
            by_cases hd : d.nox = true
            · rw [if_pos hd] at p
              exact fun w2 v e2 s2 o2 r2 => p w2 v e2 s2 o2 (r2.nox hd)
            · rw [if_neg hd] at p
              exact p.elim
      · subst hb
        rw [l] at p
        exact p w' σ' e' rfl o' en' dA a'
/-! ### e.f, isinstance(e, T), e an error -/
def tXg (X : Cx) (f : Str) (te : TE) : TE := fun σ H Q => te σ H fun x H1 => ∃ (a C dd : Addr) (oe : Obj) (fs : List (Str × V)) (v : V), x = .ref a ∧ (a, oe) ∈ X.pn ∧ Zc (.ref C) (some dd) oe ∧ (∃ vs, oe.data = .fields vs) ∧ XfC X.K C ∧ PySem.W.findIn X.K (.ref C) f = some none ∧ H1 dd = some (.xd fs) ∧ fs.lookup f = some v ∧ Q v H1
theorem pe_xg {te : TE} {n : Str} (he : PE X a te) (hb : attributeBase a n X.env (eval a X.env) = eval a X.env := by rfl) : PE X (.Attribute a n pos) (tXg X n te) := by
  refine ⟨fun pins s σ H Q I h => ?_⟩
  refine attr_of hb (thn (he.run pins s σ H _ I h) fun u s1 hh => ?_)
  obtain ⟨x, H1, I1, rx, a, C, dd, oe, fs, v, ex, hm, hz, ⟨vs, hd⟩, T, hno, ea, l, q⟩ := hh
  subst ex
  obtain rfl : u = Value.ref a := rx
  obtain ⟨ha, _⟩ := I1.pin (a, oe) (List.mem_append_left _ hm)
  have hx : ObjOk X.prog X.w H1 s1.heap dd (.xd fs) := I1.hok dd _ ea
  obtain ⟨mA, hns, hr⟩ := hx
  obtain ⟨od, ho, hl⟩ := lookIn_ns hns
  obtain ⟨u, hu, ru⟩ := RelO.some_of (v := v) (o := mA n) (by rw [← l]; exact hr n)
  have J : PySem.W.InstAt s1.heap a oe C (some od) := ⟨ha, hz.1, by unfold PySem.W.notCls; rw [hd] <;> rfl, by rw [hz.2]; exact ho⟩
  exact HandSPX.exc_get I1.kIn J T.ga T.gg T.exC (PySem.W.findObj_own T.hdC hno rfl (by rw [hl, hu])) (handed_of ru) ⟨v, H1, I1.tok _, ru, q⟩
def fExf (cls : List Addr) (n : Str) (f : F) : F := fun env S => (f env S).bind fun d S1 => match d with
  | .exn C fs => if C ∈ cls then R.of (fs.lookup n) S1 else .bad
  | _ => .bad
theorem fe_exf {n : Str} {fa : F} {cls : List Addr} (hP : ∀ q ∈ P, q ∈ X.pn) (hT : ∀ C ∈ cls, XfC X.K C ∧ PySem.W.findIn X.K (.ref C) n = some none) (he : FE X P W a fa) (hb : attributeBase a n X.env (eval a X.env) = eval a X.env := by rfl) : FE X P W (.Attribute a n pos) (fExf cls n fa) :=
  peI (pe_xg he hb) fun σ H Q ⟨w, env, hH, o, en, p⟩ => by
    subst hH
    refine re_bind o en p fun w1 x d e1 o1 en1 r1 p1 => ?_
    cases r1 with
    | @exn0 a C oe h hz hf =>
      have p1 : Post X.K w1 (if C ∈ cls then R.of (List.lookup n []) w1.S else .bad) _ _ := p1
      by_cases hc : C ∈ cls
      · rw [if_pos hc] at p1
        exact p1.elim
      · rw [if_neg hc] at p1
        exact p1.elim
    | @exn a C dd oe fs gs h hz hf hd nm r =>
      have p1 : Post X.K w1 (if C ∈ cls then R.of (gs.lookup n) w1.S else .bad) (fun w' d => ∀ v, Rep X.K P w' v d → Q v w'.H) (WP X.K W σ) := p1
      by_cases hc : C ∈ cls
      · rw [if_pos hc] at p1
        obtain ⟨z, hz2, q⟩ := p1.of
        obtain ⟨v, h1, h2⟩ := r.lookup hz2
        exact ⟨a, C, dd, oe, fs, v, rfl, hP _ h, hz, hf, (hT C hc).1, (hT C hc).2, hd, h1, q w1 (Ext.refl w1) rfl o1 v h2⟩
      · rw [if_neg hc] at p1
        exact p1.elim
    | _ => exact p1.elim
/-- isinstance of an error -/
def rIsX (X : Cx) : List V → Hp → VK → Prop := fun xs H Q => ∃ (a D : Addr) (oe : Obj) (c : V) (cv : Value) (b : Bool), xs = [.ref a, c] ∧ (a, oe) ∈ X.pn ∧ oe.cls = .ref D ∧ (∃ vs, oe.data = .fields vs) ∧ (oe.dict = none ∨ ∃ dd fs, oe.dict = some dd ∧ H dd = some (.xd fs)) ∧ L2.ExcC X.K D ∧ (PySem.W.clsIn X.K D).isSome = true ∧
  ClsV c cv ∧ PySem.W.kitOne X.K (.ref D) cv = some b ∧ Q (.bl b) H
theorem call_isX : CallR X (.builtin "isinstance") (rIsX X) := by
  intro pins s σ H xs us Q I r h
  obtain ⟨a, D, oe, c, cv, b, rfl, hm, hz, ⟨vs, hv⟩, hd, C, hcl, hcv, e, q⟩ := h
  obtain ⟨u1, u2, rfl, r1, r2⟩ := vals2 r
  cases r1
  have ec := hcv.eq r2
  subst ec
  obtain ⟨hget, _⟩ := I.pin (a, oe) (List.mem_append_left _ hm)
  rcases hd with hd | ⟨dd, fs, hd, hx⟩
  · have J : PySem.W.InstAt s.heap a oe D none := ⟨hget, hz, by unfold PySem.W.notCls; rw [hv] <;> rfl, by rw [hd]; trivial⟩
    exact PySem.W.kia_one (PySem.W.kitx_exc hcl C.hg C.hk C.hs C.ha C.hn C.ht C.hm) I.kIn J e (fun z => nomatch z) fun tk => ⟨.bl b, H, I.kept (t' := tk) fun _ _ z => z, rfl, q⟩
  · have hx : ObjOk X.prog X.w H s.heap dd (.xd fs) := I.hok dd _ hx
    obtain ⟨mA, hns, hr⟩ := hx
    obtain ⟨od, ho, hl⟩ := lookIn_ns hns
    have J : PySem.W.InstAt s.heap a oe D (some od) := ⟨hget, hz, by unfold PySem.W.notCls; rw [hv] <;> rfl, by rw [hd]; exact ho⟩
    exact PySem.W.kia_one (PySem.W.kitx_exc hcl C.hg C.hk C.hs C.ha C.hn C.ht C.hm) I.kIn J e (fun z => nomatch z) fun tk => ⟨.bl b, H, I.kept (t' := tk) fun _ _ z => z, rfl, q⟩
/-- the kind of plain data -/
def D.tyn (S : Sto) : D → Option String
  | .non => some "NoneType"
  | .bl _ => some "bool"
  | .int _ => some "int"
  | .str _ => some "str"
  | .lst _ => some "list"
  | .tup _ => some "tuple"
  | .loc m => (Cell.lst? S[m]?).map fun _ => "list"
  | _ => none
def rIsA (X : Cx) : List V → Hp → VK → Prop := fun xs H Q => rIsi X.K xs H Q ∨ rIsX X xs H Q
theorem call_isA : CallR X (.builtin "isinstance") (rIsA X) := by
  intro pins s σ H xs us Q I r h
  rcases h with h | h
  · exact call_isi pins s σ H xs us Q I r h
  · exact call_isX pins s σ H xs us Q I r h
/-- isinstance: tab tells of the classes of errors -/
def lookT (C : Addr) (t : String ⊕ Addr) : List (Addr × (String ⊕ Addr) × Bool) → Option Bool
  | [] => none
  | (c, u, b) :: l => if c = C then (if u = t then some b else lookT C t l) else lookT C t l
def gIsD (tab : List (Addr × (String ⊕ Addr) × Bool)) (S : Sto) (t : String ⊕ Addr) : D → Option D
  | .exn C _ => (lookT C t tab).map .bl
  | d => match t with
    | .inl n => (d.tyn S).bind fun t => (kitB t n).map .bl
    | .inr _ => none
def gIsi (tab : List (Addr × (String ⊕ Addr) × Bool)) : Sto → List D → Option D := fun S ds => match ds with
  | [d, .ty n] => gIsD tab S (.inl n) d
  | [d, .ref c] => gIsD tab S (.inr c) d
  | _ => none
def clsOf : String ⊕ Addr → Value
  | .inl n => .type n
  | .inr c => .ref c
theorem lookT_mem {C : Addr} {t : String ⊕ Addr} {b : Bool} : ∀ {l : List (Addr × (String ⊕ Addr) × Bool)}, lookT C t l = some b → (C, t, b) ∈ l
  | [], h => by cases h
  | (c, u, y) :: l, h => by
    unfold lookT at h
    by_cases h1 : c = C
    · rw [if_pos h1] at h
      by_cases h2 : u = t
      · rw [if_pos h2] at h
        cases h
        subst h1 h2
        exact List.mem_cons_self
      · rw [if_neg h2] at h
        exact List.mem_cons_of_mem _ (lookT_mem h)
    · rw [if_neg h1] at h
      exact List.mem_cons_of_mem _ (lookT_mem h)
theorem tyn_ok {K : PySem.W.Frag} {w : Vw} {v : V} {d : D} {t : String} (o : w.Ok K) (r : Rep K P w v d) (e : d.tyn w.S = some t) : TyX K w.H v (.type t) := by
  cases r with
  | non => cases e; exact .base .non
  | bl b => cases e; exact .base (.bl b)
  | int i => cases e; exact .base (.int i)
  | str x => cases e; exact .base (.str x)
  | lst h r => cases e; exact .base (.lst h.1)
  | tup h r =>
    cases e
    rcases h with ⟨⟨o, h, _⟩, _⟩ | ⟨o, its, n, h1, h2, _⟩
    · exact .fTuple h
    · exact .kTuple h1 h2
  | @loc m h =>
    have e : (Cell.lst? w.S[m]?).map (fun _ => "list") = some t := e
    cases g : Cell.lst? w.S[m]? with
    | none => rw [g] at e; cases e
    | some ds =>
      rw [g] at e
      cases e
      obtain ⟨xs, h1, _⟩ := o.cell m _ (lst?_some g)
      exact .base (.lst h1)
  | _ => cases e
theorem sim_isi {tab : List (Addr × (String ⊕ Addr) × Bool)} (hP : ∀ q ∈ P, q ∈ X.pn) (hT : ∀ q ∈ tab, L2.ExcC X.K q.1 ∧ (PySem.W.clsIn X.K q.1).isSome = true ∧ PySem.W.kitOne X.K (.ref q.1) (clsOf q.2.1) = some q.2.2) : SimC X.K P (rIsA X) (gIsi tab) := by
  intro w xs ds z Q o rr e q
  cases rr with
  | nil => cases e
  | @cons v d vs ds r1 rr =>
    cases rr with
    | nil => cases d <;> cases e
    | @cons u c us cs r2 rr =>
      cases rr with
      | cons _ _ => cases d <;> cases c <;> cases e
      | nil =>
        -- an error
        have err : ∀ (C : Addr) (gs : List (Str × D)) (t : String ⊕ Addr) (cv : Value), d = .exn C gs → (lookT C t tab).map D.bl = some z → cv = clsOf t → ClsV u cv → rIsA X [v, u] w.H Q := fun C gs t cv hd hl hcv hu => by
          subst hd hcv
          cases g : lookT C t tab with
          | none => rw [g] at hl; cases hl
          | some b =>
            rw [g] at hl
            cases hl
            obtain ⟨h1, h2, h3⟩ := hT _ (lookT_mem g)
            cases r1 with
            | @exn0 a _ oe h hz hf => exact .inr ⟨a, C, oe, u, _, b, rfl, hP _ h, hz.1, hf, .inl hz.2, h1, h2, hu, h3, q w _ (Ext.refl w) rfl o (.bl _)⟩
            | @exn a _ dd oe fs _ h hz hf hd nm r => exact .inr ⟨a, C, oe, u, _, b, rfl, hP _ h, hz.1, hf, .inr ⟨dd, fs, hz.2, hd⟩, h1, h2, hu, h3, q w _ (Ext.refl w) rfl o (.bl _)⟩
        cases r2 with
        | ty n =>
          by_cases hx : ∃ C gs, d = .exn C gs
          · obtain ⟨C, gs, hd⟩ := hx
            exact err C gs (.inl n) _ hd (by rw [hd] at e; exact e) rfl (.ty n)
          · have e : ((d.tyn w.S).bind fun t => (kitB t n).map D.bl) = some z := by
              cases d with
              | exn C gs => exact absurd ⟨_, _, rfl⟩ hx
              | _ => exact e
            cases g : d.tyn w.S with
            | none => rw [g] at e; cases e
            | some t =>
              rw [g] at e
              have e : (kitB t n).map D.bl = some z := e
              cases g2 : kitB t n with
              | none => rw [g2] at e; cases e
              | some b =>
                rw [g2] at e
                cases e
                exact .inl ⟨v, .ty n, .type t, .type n, b, rfl, .ty n, tyn_ok o r1 g, kit_ty g2, q w _ (Ext.refl w) rfl o (.bl _)⟩
        | ref c =>
          cases d with
          | exn C gs => exact err C gs (.inr c) _ rfl e rfl (.own c)
          | _ => cases e
        | _ => cases d <;> cases e
end
/-! ### defs that are called while an exception is handled -/
open L2H in
structure FnHp (P : Program) (w : World) (K : PySem.W.Frag) (mg : Str → Option Value) (base : Heap) (k : Nat) (f : Addr) (fd : FuncData) (ps : List Str) (sp : Pn → Sp) : Prop where
  len : ∀ pn vs H Q E, sp pn vs H Q E → vs.length = ps.length
  run : ∀ (A : Around) (outer : List PySem.Env) (s : Shared) (H : Hp) (args : Args) (us : List Value) (vs : List V) (Q : VK) (pn : Pn), RoomH k A → (∀ p ∈ pn, PinOk outer H s p) → Env0 P w K mg base A outer s H → BindsTo s fd args (ps.zip us) → Vals vs us → sp pn vs H Q E0 →
    codeAny (model P w) A (.call (.ref f) args) (CR CX0 outer P w H s Q E0) s
/-- the context of such a def's body -/
def cxP (P : Program) (w : World) (K : PySem.W.Frag) (mg : Str → Option Value) (base : Heap) (N : List Str) (qual : Str) (scope : Scope) (f : Addr) (cd : Value) (A : Around) (outer : List PySem.Env) (s : Shared) (H : Hp) (pn : Pn) : Cx :=
  { cxOf CX0 P w K mg base N qual scope f cd A outer s H E0 with calm := false, pn := pn }
/-- the promise of such a def: what it does is told by f; no error leaves it -/
def spH (K : PySem.W.Frag) (n : Nat) (f : Fn) : Pn → Sp := fun pn vs H Q _ => ∃ w ds, w.H = H ∧ w.Ok K ∧ Reps K pn w vs ds ∧ ds.length = n ∧
  Post K w (f ds w.S) (fun w' d => ∀ v, Rep K pn w' v d → Q v w'.H) (fun _ _ _ => False)
section
variable {P : Program} {w : World} {K : PySem.W.Frag} {mg : Str → Option Value} {base : Heap} {x qual : Str} {params : Arguments} {body : List Stmt} {scope : Scope} {dvs : List V} {kws : List (Str × V)} {f : Addr} {fd : FuncData}
end
section
variable {X : Cx} {P : Pn} {W : WX} {a : Expr} {es : List Expr} {fs : Fa} {fn : Fn} {k n m : Nat} {f : Addr} {fd : FuncData} {ps : List Str} {x : Str} {p pos : Pos}
end
end FL
set_option maxRecDepth 100000
set_option maxHeartbeats 2000000
namespace FL
open PySem PySem.Spec PyProof.Rows L2
/-! ### sorted of a list of ints -/
def insI (i : Int) : List Int → List Int
  | [] => [i]
  | j :: r => if i ≤ j then i :: j :: r else j :: insI i r
def sortI : List Int → List Int
  | [] => []
  | i :: r => insI i (sortI r)
def gSorted : Sto → List D → Option (List D) := fun S ds => match ds with
  | [d] => (lintsOf S d).bind fun ns => if ns.length < 64 then some ((sortI ns).map .int) else none
  | _ => none
theorem reps_ints {K : PySem.W.Frag} {P : Pn} {w : Vw} : ∀ ns : List Int, Reps K P w (ns.map V.int) (ns.map D.int)
  | [] => .nil
  | i :: r => .cons (.int i) (reps_ints r)
/-! ### list(range(n)) -/
def gLRg (lo : Sto → List D → Option (Int × Int)) : Sto → List D → Option (List D) := fun S ds => (lo S ds).bind fun q => if -(2 ^ 62) ≤ q.1 ∧ q.1 < 2 ^ 62 ∧ -(2 ^ 62) ≤ q.2 ∧ q.2 < 2 ^ 62 ∧ (q.2 - q.1).toNat ≤ 2 ^ 24 then some (rngD q.1 (q.2 - q.1).toNat) else none
def lo1 : Sto → List D → Option (Int × Int) := fun _ ds => match ds with
  | [.int n] => some (0, n)
  | _ => none
section
variable {X : Cx} {P : Pn} {W : WX} {a : Expr} {fa : F} {p pos p2 pos2 : Pos}
end
/-! ### y = [..] -/
section
variable {X : Cx} {P : Pn} {W : WX} {elt tg iter : Expr} {ifs : List Expr} {scope : Scope} {own : List (Str × Nat)} {pos : Pos} {fi : Fi} {g : TGf} {ft : Ft} {fe : F}
theorem fs_setLc {i : Nat} {y : Str} {py spos : Pos} (hc : X.calm = true) (hN : X.N.Nodup) (hy : X.N[i]? = some y) (hyl : X.env.scope.names.lookup y = some .local)
    (hsw : swapsWith (.ListComp elt [⟨tg, iter, ifs, 0⟩] scope pos) (some (.Name y py)) spos.line X.env = pure true) (hi : FI X P W tg iter fi) (ok : BlkOk X.N X.env.scope scope own)
    (hg : ∀ (s : Shared) (H : Hp) (C : Addr) (cl : List (Str × Addr)) (fp : List Addr), FGv (X.blk s H scope (compEnvC scope cl C X.env) fp) P (ownS own) tg g)
    (ht : ∀ (s : Shared) (H : Hp) (C : Addr) (cl : List (Str × Addr)) (fp : List Addr), FTs (X.blk s H scope (compEnvC scope cl C X.env) fp) P WF ifs ft)
    (he : ∀ (s : Shared) (H : Hp) (C : Addr) (cl : List (Str × Addr)) (fp : List Addr), FE (X.blk s H scope (compEnvC scope cl C X.env) fp) P WF elt fe) (hs : ∀ x, foldedSetIterable iter X.env x = pure x := by intro _; rfl) :
    FS X P W (.Assign [.Name y py] (.ListComp elt [⟨tg, iter, ifs, 0⟩] scope pos) spos) (sAsg (fLc fi g ft fe (ownS own)) (gN i)) :=
  fs_setLcG (fA := sNext) (k := fun es S => .ok (.lst es) S) hc hN hy hyl hsw hi ok hg ht he (fun w1 w2 D0 ys es P' W' e2 hD o2 hl hz nz rr p => by
    obtain ⟨h1, h2, h3⟩ := lc_end e2 hD o2 hl hz nz rr
    exact ⟨w2.z w1.Z, .lst es, rfl, p (w2.z w1.Z) h1 rfl h2, h1, h2, h3⟩) hs
theorem fs_setLcL {i : Nat} {y : Str} {py spos : Pos} (hpn : P = []) (hc : X.calm = true) (hN : X.N.Nodup) (hy : X.N[i]? = some y) (hyl : X.env.scope.names.lookup y = some .local)
    (hsw : swapsWith (.ListComp elt [⟨tg, iter, ifs, 0⟩] scope pos) (some (.Name y py)) spos.line X.env = pure true) (hi : FI X P W tg iter fi) (ok : BlkOk X.N X.env.scope scope own)
    (hg : ∀ (s : Shared) (H : Hp) (C : Addr) (cl : List (Str × Addr)) (fp : List Addr), FGv (X.blk s H scope (compEnvC scope cl C X.env) fp) P (ownS own) tg g)
    (ht : ∀ (s : Shared) (H : Hp) (C : Addr) (cl : List (Str × Addr)) (fp : List Addr), FTs (X.blk s H scope (compEnvC scope cl C X.env) fp) P WF ifs ft)
    (he : ∀ (s : Shared) (H : Hp) (C : Addr) (cl : List (Str × Addr)) (fp : List Addr), FE (X.blk s H scope (compEnvC scope cl C X.env) fp) P WF elt fe) (hs : ∀ x, foldedSetIterable iter X.env x = pure x := by intro _; rfl) :
    FS X P W (.Assign [.Name y py] (.ListComp elt [⟨tg, iter, ifs, 0⟩] scope pos) spos) (sAsg (fLcL fi g ft fe (ownS own)) (gN i)) := by
  subst hpn
  exact fs_setLcG (fA := sNext) (k := fun es S => .ok (.loc S.length) (S ++ [.lst es])) hc hN hy hyl hsw hi ok hg ht he (fun w1 w2 D0 ys es P' W' e2 hD o2 hl hz nz rr p => by
    obtain ⟨h1, h2, h3⟩ := lc_endL e2 hD o2 hl hz nz rr
    exact ⟨Vw.lcv w1 w2 D0 es, .loc w2.S.length, rfl, p (Vw.lcv w1 w2 D0 es) h1 rfl h2, h1, h2, h3⟩) hs
end
/-! ### the __init__ of an own error -/
section
variable {P : Program} {w : World} {K : PySem.W.Frag} {mg : Str → Option Value} {base : Heap} {x qual : Str} {params : Arguments} {scope : Scope} {fI C : Addr} {fd : FuncData} {a b c f g : Str} {p1 p2 p3 p4 p5 p6 p7 p8 : Pos}
theorem ok_ini2 (F : FunD K x qual params [.Assign [.Attribute (.Name a p1) f p2] (.Name b p3) p4, .Assign [.Attribute (.Name a p5) g p6] (.Name c p7) p8] scope [] [] fI fd) (S : FnScope [a, b, c] [a, b, c] scope) (T : OexC K C)
    (n1 : PySem.W.findIn K (.ref C) f = some none) (n2 : PySem.W.findIn K (.ref C) g = some none) (va : Vis scope a) (vb : Vis scope b) (vc : Vis scope c)
    (da : (a == ("__debug__" : Str)) = false) (db : (b == ("__debug__" : Str)) = false) (dc : (c == ("__debug__" : Str)) = false) (da' : (a == ("__classdict__" : Str)) = false) (db' : (b == ("__classdict__" : Str)) = false) (dc' : (c == ("__classdict__" : Str)) = false) : FnOk P w K mg base CX0 1 fI fd [a, b, c] (spIni2 C f g) := by
  refine F.ok S (fun vs H Q E ⟨_, _, _, e, _⟩ => by rw [e]; rfl) (fun cdv A outer s H vs Q E hr h => ⟨tSeq (tOst K f (tVar 0) (tVar 1)) (tOst K g (tVar 0) (tVar 2)), PSs.nox (pss_cons (ps_ost (pe_var (i := 0) rfl va da da') (pe_var (i := 1) rfl vb db db')) (pss_one (ps_ost (pe_var (i := 0) rfl va da da') (pe_var (i := 2) rfl vc dc dc')))), ?_⟩)
  obtain ⟨o, y1, y2, rfl, ho, q⟩ := h
  refine ⟨y1, rfl, .ref o, rfl, o, C, rfl, T, n1, .inl ⟨ho, fun dx hdx hne => ?_⟩⟩
  refine ⟨y2, rfl, .ref o, rfl, o, C, rfl, T, n2, .inr ⟨dx, [(f, y1)], upd_same, ?_, by show 1 ≤ 900; decide, q dx hdx hne⟩⟩
  rw [upd_ne hne, upd_same]
end
end FL
set_option maxRecDepth 100000
set_option maxHeartbeats 2000000
namespace FL
open PySem PySem.Spec PyProof.Rows L2
section
variable {P : Program} {w : World} {K : PySem.W.Frag} {mg : Str → Option Value} {base : Heap} {N ps : List Str} {qual : Str} {scope : Scope} {f : PySem.Addr} {cd : Value} {A : Around} {outer : List PySem.Env} {s : Shared} {H : Hp} {E : XK} {fd : FuncData}
theorem tk_cx : Takes (cxOf (L2.CX P w) P w K mg base N qual scope f cd A outer s H E) (fun cls d _ H => E cls d H) := takes_of rfl rfl rfl rfl
theorem own_cx : PassesOwn (model P w) (cxOf (L2.CX P w) P w K mg base N qual scope f cd A outer s H E).A (cxOf (L2.CX P w) P w K mg base N qual scope f cd A outer s H E).env (cxOf (L2.CX P w) P w K mg base N qual scope f cd A outer s H E).xe := passes_of rfl
theorem tkF {X : Cx} : Takes X WF := fun u s' ⟨_, _, _, _, _, _, _, _, _, _, _, _, _, _, _, _, w⟩ => w.elim
theorem fn_bad {CX : CXT} {k : Nat} : FnOk P w K mg base CX k f fd ps (spF K ps.length fun _ _ => .bad) :=
  ⟨fun vs H Q E ⟨v, ds, _, _, r, hl, _⟩ => r.length.trans hl, fun A outer s H args us vs Q E _ _ _ _ ⟨v, ds, _, _, _, _, p⟩ => p.elim⟩
end
end FL
set_option maxRecDepth 100000
set_option maxHeartbeats 2000000
namespace FL
open PySem PySem.Spec PyProof.Rows L2
/-! ### a def whose new cells are forgotten, whose new list is told as a value -/
def keptB (S S3 : Sto) : Bool := decide (S.length ≤ S3.length) && (S3.take S.length).all (Cell.plain S.length)
def frzC (n : Nat) (S2 : Sto) : Option Cell → R D
  | some (.lst es) => if plains n es = true then .ok (.lst es) S2 else .bad
  | _ => .bad
def frzR (S : Sto) : R D → R D
  | .ok d S3 => if keptB S S3 = true then
      (if d.plain S.length = true then .ok d (S3.take S.length) else match d with
        | .loc m => frzC S.length (S3.take S.length) S3[m]?
        | _ => .bad) else .bad
  | .exc C fs S3 => if (keptB S S3 && plainf S.length fs) = true then .exc C fs (S3.take S.length) else .bad
  | .bad => .bad
def frz (f : Fn) : Fn := fun ds S => frzR S (f ds S)
theorem kept_shr {S S3 : Sto} (h : keptB S S3 = true) : Shr S (S3.take S.length) S3 := by
  obtain ⟨h1, h2⟩ := Bool.and_eq_true_iff.mp h
  have h1 := of_decide_eq_true h1
  refine ⟨by rw [List.length_take]; omega, h1, fun m c e => ?_⟩
  have hm : m < S.length := by
    have := (List.getElem?_eq_some_iff.mp e).1
    rw [List.length_take] at this
    omega
  refine ⟨by rw [List.getElem?_take_of_lt hm] at e; exact e, .inr (List.all_eq_true.mp h2 c (List.mem_of_getElem? e))⟩
/-! ### what the meanings compute -/
section
variable {S S1 : Sto} {i j : Int}
theorem size16 {n : Nat} (h : n ≤ 16777216) : n ≤ sizeLine := by rw [sizeLine_eq]; exact h
theorem size16' {n : Nat} (h : n < 16777216) : n < sizeLine := by rw [sizeLine_eq]; exact h
theorem gAdd_int : gAdd S (.int i) (.int j) = some (.int (i + j)) := rfl
theorem gSub_int : gSub S (.int i) (.int j) = some (.int (i - j)) := rfl
theorem gLt_int : gLt S (.int i) (.int j) = some (.bl (decide (i < j))) := rfl
theorem gLe_int : gLe S (.int i) (.int j) = some (.bl (decide (i ≤ j))) := rfl
theorem gGt_int : gGt S (.int i) (.int j) = some (.bl (decide (j < i))) := rfl
theorem gGe_int : gGe S (.int i) (.int j) = some (.bl (decide (j ≤ i))) := rfl
theorem gNeg_int : gNeg S (.int i) = some (.int (-i)) := rfl
theorem gMod_int (h : 0 < j) : gMod S (.int i) (.int j) = some (.int (i % j)) := if_pos (decide_eq_true h)
theorem gDiv_int (h : 0 < j) (h2 : j < 1073741824) : gDiv S (.int i) (.int j) = some (.int (i / j)) := if_pos (decide_eq_true ⟨h, h2⟩)
theorem gMul_int (h : -(2 ^ 64) < i ∧ i < 2 ^ 64) : gMul S (.int i) (.int j) = some (.int (i * j)) := if_pos (decide_eq_true (.inl h))
theorem gI2C_int {f : Int → Int → Int} : gI2C f S [.int i, .int j] = some (.int (f i j)) := rfl
theorem gAbs_int : gAbs S [.int i] = some (.int (if i < 0 then -i else i)) := rfl
theorem gInt_int : gInt S [.int i] = some (.int i) := rfl
theorem eqv_int : PyData.eqv (.int i) (.int j) = decide (i = j) := by
  unfold PyData.eqv
  first | rfl | (show (i == j) = decide (i = j); by_cases h : i = j <;> simp [h])
theorem gEq_int : gEq false S (.int i) (.int j) = some (.bl (decide (i = j))) := by
  show (if (SeqAt.shaped (PyData.int i) && SeqAt.shaped (PyData.int j)) = true then some (D.bl (PyData.eqv (.int i) (.int j))) else none) = _
  rw [if_pos (by rfl), eqv_int]
theorem gNe_int : gEq true S (.int i) (.int j) = some (.bl (!decide (i = j))) := by
  show (if (SeqAt.shaped (PyData.int i) && SeqAt.shaped (PyData.int j)) = true then some (D.bl (!PyData.eqv (.int i) (.int j))) else none) = _
  rw [if_pos (by rfl), eqv_int]
theorem gCat_lst {xs ys : List D} (h : xs.length + ys.length ≤ 16777216) : gAdd S (.lst xs) (.lst ys) = some (.lst (xs ++ ys)) := by
  show ((if xs.length + ys.length ≤ sizeLine then some (xs ++ ys) else none).map D.lst) = _
  rw [if_pos (size16 h)]
  rfl
theorem gLen_lst {xs : List D} : gLen S [.lst xs] = some (.int xs.length) := rfl
theorem gLen_tup {xs : List D} : gLen S [.tup xs] = some (.int xs.length) := rfl
theorem gLen_loc {m : Nat} {xs : List D} (h : S[m]? = some (.lst xs)) : gLen S [.loc m] = some (.int xs.length) := by
  show ((Cell.lst? S[m]?).map List.length).map (fun n : Nat => D.int n) = _
  rw [h]
  rfl
theorem atI_nat {α : Type} {xs : List α} {k : Nat} {z : α} (h : xs[k]? = some z) : atI xs (k : Int) = some z := L2.atI_nat h
theorem gIx_lst {xs : List D} {k : Nat} {z : D} (h : xs[k]? = some z) : gIx S (.lst xs) (.int (k : Int)) = some z := atI_nat h
theorem gIx_tup {xs : List D} {k : Nat} {z : D} (h : xs[k]? = some z) : gIx S (.tup xs) (.int (k : Int)) = some z := atI_nat h
theorem gIx_loc {m : Nat} {xs : List D} {k : Nat} {z : D} (hc : S[m]? = some (.lst xs)) (h : xs[k]? = some z) : gIx S (.loc m) (.int (k : Int)) = some z := by
  show (Cell.lst? S[m]?).bind (fun ds => atI ds (k : Int)) = _
  rw [hc]
  exact atI_nat h
end
/-! ### loops -/
theorem forL_run {body : D → SF} (I : List D → Env → Sto → Prop) (step : ∀ d r env S, I (d :: r) env S → ∃ env' S', body d env S = .fl (.nx env') S' ∧ I r env' S') :
    ∀ ds env S, I ds env S → ∃ env' S', forL body ds env S = .fl (.nx env') S' ∧ I [] env' S'
  | [], env, S, h => ⟨env, S, rfl, h⟩
  | d :: r, env, S, h => by
    obtain ⟨env1, S1, e, h1⟩ := step d r env S h
    obtain ⟨env2, S2, e2, h2⟩ := forL_run I step r env1 S1 h1
    refine ⟨env2, S2, ?_, h2⟩
    unfold forL
    rw [e]
    exact e2
theorem sFor_fix {fi : Fi} {g : TGf} {b : SF} {env : Env} {S S1 : Sto} {ds : List D} (h : fi env S = .ok (.fix ds) S1) :
    sFor fi g b env S = forL (fun d env S => match g d env S with
      | some env' => b env' S
      | none => .bad) ds env S1 := by
  unfold sFor
  rw [h]
  rfl
def lcL (body : D → Sto → R (Option D)) : List D → List D → Sto → R (List D)
  | [], acc, S => .ok acc S
  | d :: r, acc, S => (body d S).bind fun o S1 => match o with
    | some z => if acc.length < sizeLine then lcL body r (acc ++ [z]) S1 else .bad
    | none => lcL body r acc S1
theorem lcS_fix {body : D → Sto → R (Option D)} (all : List D) : ∀ (ds : List D) (i : Nat) (acc : List D) (S : Sto), all.drop i = ds → lcS (.fix all) body ds.length i acc S = lcL body ds acc S
  | [], i, acc, S, h => by
    have e : all[i]? = none := by
      have := List.getElem?_drop (xs := all) (i := i) (j := 0)
      rw [h] at this
      simpa using this.symm
    unfold lcS lcL
    show (match some all[i]? with | none => R.bad | some none => _ | some (some d) => _) = _
    rw [e]
  | d :: r, i, acc, S, h => by
    have e : all[i]? = some d := by
      have := List.getElem?_drop (xs := all) (i := i) (j := 0)
      rw [h] at this
      simpa using this.symm
    have h2 : all.drop (i + 1) = r := by
      rw [← List.drop_drop, h]
      rfl
    unfold lcS lcL
    show (match some all[i]? with | none => R.bad | some none => R.ok acc S | some (some d) => (body d S).bind fun o S1 => match o with
        | some z => if acc.length < sizeLine then lcS (.fix all) body r.length (i + 1) (acc ++ [z]) S1 else .bad
        | none => lcS (.fix all) body r.length (i + 1) acc S1) = _
    rw [e]
    show (body d S).bind _ = (body d S).bind _
    congr 1
    funext o S1
    cases o with
    | none => exact lcS_fix all r (i + 1) acc S1 h2
    | some z => 
      show (if acc.length < sizeLine then lcS (.fix all) body r.length (i + 1) (acc ++ [z]) S1 else .bad) = (if acc.length < sizeLine then lcL body r (acc ++ [z]) S1 else .bad)
      rw [lcS_fix all r (i + 1) (acc ++ [z]) S1 h2]
/-! ### equality of the same data -/
mutual
def PyData.simple : PyData → Bool
  | .none => true
  | .bool _ => true
  | .int _ => true
  | .str _ => true
  | .tuple xs => simples xs
  | .list xs => simples xs
  | _ => false
def simples : List PyData → Bool
  | [] => true
  | x :: r => PyData.simple x && simples r
end

end FL
set_option maxRecDepth 100000
set_option maxHeartbeats 2000000
namespace FL
open PySem PySem.Spec PyProof.Rows L2
abbrev iD (xs : List Int) : List FL.D := xs.map .int
abbrev pool (xs : List Int) (T : Sto) : Sto := .lst (iD xs) :: T
/-! ### data -/
theorem pys_iD (S : Sto) : ∀ xs : List Int, pys S (iD xs) = some (xs.map .int)
  | [] => rfl
  | x :: r => by
    show (match (some (PyData.int x)), pys S (iD r) with
      | some a, some b => some (a :: b)
      | _, _ => none) = _
    rw [pys_iD S r]
    rfl
theorem pys0_iD : ∀ xs : List Int, pys0 (iD xs) = some (xs.map .int)
  | [] => rfl
  | x :: r => by
    show (match (some (PyData.int x)), pys0 (iD r) with
      | some a, some b => some (a :: b)
      | _, _ => none) = _
    rw [pys0_iD r]
    rfl
theorem lay_iD : ∀ xs : List Int, PyData.canLayAll0 (xs.map .int) = true
  | [] => rfl
  | x :: r => by
    show (PyData.canLay0 (.int x) && PyData.canLayAll0 (r.map .int)) = true
    rw [lay_iD r]
    rfl
theorem dep_iD : ∀ xs : List Int, PyData.depthAll (xs.map .int) = 0
  | [] => rfl
  | x :: r => by
    show max (PyData.depth (.int x)) (PyData.depthAll (r.map .int)) = 0
    rw [dep_iD r]
    rfl
theorem shaped_of {ys : List PyData} (h1 : PyData.canLayAll0 ys = true) (h2 : PyData.depthAll ys ≤ 63) : SeqAt.shaped (.list ys) = true := by
  show (PyData.canLayAll0 ys && decide (PyData.depthAll ys + 1 ≤ 64)) = true
  rw [h1, decide_eq_true (by omega)]
  rfl
theorem gEq_nil {S : Sto} {d : FL.D} {ys : List PyData} (h : d.py S = some (.list ys)) (hs : SeqAt.shaped (.list ys) = true) : gEq false S d (.lst []) = some (.bl ys.isEmpty) := by
  unfold gEq
  rw [h]
  show (if (SeqAt.shaped (.list ys) && SeqAt.shaped (.list [])) = true then some (FL.D.bl (PyData.eqv (.list ys) (.list []))) else none) = _
  rw [hs, if_pos (by rfl)]
  cases ys <;> rfl
theorem gEq_pool {xs : List Int} {T : Sto} : gEq false (pool xs T) (.loc 0) (.lst []) = some (.bl xs.isEmpty) := by
  have e : FL.D.py (pool xs T) (.loc 0) = some (.list (xs.map .int)) := by
    unfold FL.D.py
    show ((pys0 (iD xs)).map PyData.list) = _
    rw [pys0_iD]
    rfl
  rw [gEq_nil e (shaped_of (lay_iD xs) (by rw [dep_iD]; omega))]
  cases xs <;> rfl
/-! ### changes -/
theorem locL_of {S : Sto} {m : Nat} {xs : List FL.D} (h : S[m]? = some (.lst xs)) : locL S (.loc m) = some (m, xs) := by
  show (Cell.lst? S[m]?).map (fun ds => (m, ds)) = _
  rw [h]
  rfl
theorem mut_append {S : Sto} {m : Nat} {xs : List FL.D} {d : FL.D} (h : S[m]? = some (.lst xs)) (hl : xs.length < 16777216) : mutAt gAppend (.loc m) [d] S = .ok .non (S.set m (.lst (xs ++ [d]))) := by
  unfold mutAt
  rw [locL_of h]
  show (match (if xs.length < sizeLine then some (FL.D.non, xs ++ [d]) else none) with
    | some (z, ys) => R.ok z (S.set m (.lst ys))
    | none => R.bad) = _
  rw [if_pos (size16' hl)]
theorem iRng_of {g : List FL.D → Option Src} {fs : Fa} {env : FL.Env} {S S1 : Sto} {ds : List FL.D} {s : Src} (h1 : fs env S = .ok ds S1) (h2 : g ds = some s) : iRng g fs env S = .ok s S1 := by
  unfold iRng
  rw [h1]
  show R.of (g ds) S1 = _
  rw [h2]
  rfl
theorem gRng1_j {j : Int} (h : smallI j = true) : gRng1 [.int j] = some (.fix (rngD 0 j.toNat)) := by
  unfold gRng1
  simp only [h, if_true]
theorem small_nat {n : Nat} (h : n ≤ 1000) : smallI (n : Int) = true := decide_eq_true ⟨by omega, by omega⟩
theorem sIf_t {c : Ft} {g h : SF} {env : FL.Env} {S S1 : Sto} (e : c env S = .ok true S1) : sIf c g h env S = g env S1 := by
  unfold sIf
  rw [e]
  rfl
theorem sIf_f {c : Ft} {g h : SF} {env : FL.Env} {S S1 : Sto} (e : c env S = .ok false S1) : sIf c g h env S = h env S1 := by
  unfold sIf
  rw [e]
  rfl
theorem seqR {g k : SF} {env : FL.Env} {S S' : Sto} {d : FL.D} (h : g env S = .fl (.rt d) S') : sSeq g k env S = .fl (.rt d) S' := by
  unfold sSeq
  rw [h]
theorem seq1 {g k : SF} {env env' : FL.Env} {S S' : Sto} (h : g env S = .fl (.nx env') S') : sSeq g k env S = k env' S' := by
  unfold sSeq
  rw [h]
end FL
set_option maxRecDepth 100000
set_option maxHeartbeats 2000000
namespace FL
open PySem PySem.Spec PyProof.Rows L2
/-! ### e.f, a field of an own instance -/
def insOf (S : Sto) : D → Option (Addr × List (Str × D))
  | .obj C fs => some (C, fs)
  | .loc m => match S[m]? with
    | some (.ins C fs) => some (C, fs)
    | _ => none
  | _ => none
def gFld (cls : List Addr) (n : Str) : Sto → D → Option D := fun S d => (insOf S d).bind fun q => if q.1 ∈ cls then q.2.lookup n else none
def fFld (cls : List Addr) (n : Str) (f : F) : F := fun env S => (f env S).bind fun d S1 => R.of (gFld cls n S1 d) S1
section
variable {X : Cx} {P : Pn} {W : WX} {a b : Expr} {es : List Expr} {kws : List (Option Str × Expr)} {fa fb : F} {fs : Fa} {fn : Fn} {k n m : Nat} {f p g : Addr} {fd : FuncData} {ps : List Str} {x : Str} {pos apos : Pos}
/-! ### o.f = e, o a cell -/
def putD (n : Str) (d : D) : List (Str × D) → List (Str × D)
  | [] => [(n, d)]
  | q :: r => if q.1 = n then (n, d) :: r else q :: putD n d r
def sFldD (cls : List Addr) (n : Str) (fv fo : F) : SF := fun env S => (fv env S).bindS env fun d S1 => (fo env S1).bindS env fun x S2 => match x with
  | .loc m => (match S2[m]? with
    | some (.ins C gs) => if C ∈ cls ∧ gs.length < 1000 then .fl (.nx env) (S2.set m (.ins C (putD n d gs))) else .bad
    | _ => .bad)
  | _ => .bad
theorem RepF.put {K : PySem.W.Frag} {P : Pn} {w : Vw} {n : Str} {v : V} {d : D} (h : Rep K P w v d) : ∀ {fs : List (Str × V)} {gs : List (Str × D)}, RepF K P w fs gs → RepF K P w (putF n v fs) (putD n d gs)
  | _, _, .nil => .cons h .nil
  | _, _, @RepF.cons _ _ _ f v' d' vs ds h1 t => by
    show RepF K P w (if f = n then (f, v) :: vs else (f, v') :: putF n v vs) (if f = n then (n, d) :: ds else (f, d') :: putD n d ds)
    by_cases e : f = n
    · rw [if_pos e, if_pos e, e]
      exact .cons h t
    · rw [if_neg e, if_neg e]
      exact .cons h1 (RepF.put h t)
/-! ### e.f, a property -/
def fProp (C0 : Addr) (fn : Fn) (f : F) : F := fun env S => (f env S).bind fun d S1 => match insOf S1 d with
  | some (C, _) => if C = C0 then (fn [d] S1).noX else .bad
  | none => .bad
/-! ### C(e, ..): an own instance, frozen at once -/
def mkR (S1 : Sto) : R D → R D
  | .ok .non S3 => if keptB S1 S3 = true then (match S3[S1.length]? with
    | some (.ins C gs) => if plainf S1.length gs = true then .ok (.obj C gs) (S3.take S1.length) else .bad
    | _ => .bad) else .bad
  | _ => .bad
def fMk (C : Addr) (fn : Fn) (fs : Fa) : F := fun env S => (fs env S).bind fun ds S1 => mkR S1 (fn (.loc S1.length :: ds) (S1 ++ [.ins C []]))
end
end FL
set_option maxRecDepth 100000
set_option maxHeartbeats 2000000
namespace FL
open PySem PySem.Spec PyProof.Rows L2
/-! ### f(e, .., k = v, ..) -/
def FK (X : Cx) (P : Pn) (W : WX) (kws : List Keyword) (f : Fa) : Prop := PK X kws (RA X.K P W f)
section
variable {X : Cx} {P : Pn} {W : WX} {a b : Expr} {es : List Expr} {kws : List Keyword} {fa fb : F} {fs ks : Fa} {fn : Fn} {k n m j : Nat} {f : Addr} {fd : FuncData} {ps kn : List Str} {x : Str} {p pos kpos : Pos} {nm : Option Str}
/-- the order of the parameters, told of values and of data -/
structure Gv (K : PySem.W.Frag) (n j N : Nat) (gV : List V → List V → List V) (gd : List D → List D → List D) : Prop where
  rep : ∀ (w : Vw) (vs zs : List V) (ds es : List D), Reps K [] w vs ds → Reps K [] w zs es → ds.length = n → es.length = j → Reps K [] w (gV vs zs) (gd ds es) ∧ (gd ds es).length = N
def fCallN (fn : Fn) (gd : List D → List D → List D) (fs ks : Fa) : F := fun env S => (fs env S).bind fun ds S1 => (ks env S1).bind fun es S2 => fn (gd ds es) S2
end
end FL
set_option maxRecDepth 100000
set_option maxHeartbeats 2000000
namespace FL
open PySem PySem.Spec PyProof.Rows L2
/-! ### a list times an int -/
theorem Reps.rep {K : PySem.W.Frag} {P : Pn} {w : Vw} {xs : List V} {ds : List D} (r : Reps K P w xs ds) : ∀ n : Nat, Reps K P w (List.replicate n xs).flatten (List.replicate n ds).flatten
  | 0 => .nil
  | n + 1 => by
    rw [List.replicate_succ, List.replicate_succ, List.flatten_cons, List.flatten_cons]
    exact r.append (Reps.rep r n)
def gRep : Sto → D → D → Option (List D) := fun S d e => match e with
  | .int k => (lstOf S d).bind fun xs => if -(2 ^ 63) ≤ k ∧ k < 2 ^ 63 ∧ xs.length * k.toNat ≤ sizeLine then some (List.replicate k.toNat xs).flatten else none
  | _ => none
theorem sim_rep {K : PySem.W.Frag} {P : Pn} : Sim2L K P rRep gRep := by
  intro w x y d e es Q o r1 r2 q kk
  cases r2 with
  | int k =>
    have q : ((lstOf w.S d).bind fun xs => if -(2 ^ 63) ≤ k ∧ k < 2 ^ 63 ∧ xs.length * k.toNat ≤ sizeLine then some (List.replicate k.toNat xs).flatten else none) = some es := q
    cases g : lstOf w.S d with
    | none => rw [g] at q; cases q
    | some ds =>
      rw [g] at q
      have q : (if -(2 ^ 63) ≤ k ∧ k < 2 ^ 63 ∧ ds.length * k.toNat ≤ sizeLine then some (List.replicate k.toNat ds).flatten else none) = some es := q
      by_cases hh : -(2 ^ 63) ≤ k ∧ k < 2 ^ 63 ∧ ds.length * k.toNat ≤ sizeLine
      · rw [if_pos hh] at q
        cases q
        obtain ⟨a, xs, rfl, h1, h2⟩ := lst_of o r1 g
        exact ⟨a, k, xs, rfl, rfl, h1, hh.1, hh.2.1, by rw [h2.length]; exact hh.2.2, fun p hp => kk p _ hp (h2.rep _)⟩
      · rw [if_neg hh] at q
        cases q
  | _ => cases q
def gMulA : Sto → D → D → Option D := fun S d e => match gMul S d e with
  | some z => some z
  | none => (gRep S d e).map .lst
theorem op_mulA {X : Cx} : OpR X (binaryOp .Mult) (fun x y H Q => rI CMul (fun i j => .int (i * j)) x y H Q ∨ rRep x y H Q) := op_mul.or op_rep
theorem sim_mulA {K : PySem.W.Frag} {P : Pn} : Sim2 K P (fun x y H Q => rI CMul (fun i j => .int (i * j)) x y H Q ∨ rRep x y H Q) gMulA := sim_mul.or sim_rep.val
end FL
set_option maxRecDepth 100000
set_option maxHeartbeats 2000000
/-! FLI: running the meanings step by step: W r K, the frames, one rule a step -/
namespace FL
open PySem PySem.Spec PyProof.Rows L2
def W {ρ : Type} (r : ρ) (K : ρ → Prop) : Prop := K r
theorem w_id {ρ : Type} {r : ρ} {K : ρ → Prop} (h : K r) : W r K := h
theorem w_eq {ρ : Type} {r r' : ρ} {K : ρ → Prop} (e : r = r') (h : W r' K) : W r K := by rw [e]; exact h
theorem w_mid {ρ : Type} {r : ρ} {K : ρ → Prop} (P : ρ → Prop) (h1 : W r P) (h2 : ∀ r, P r → W r K) : W r K := h2 r h1
/-! by type, by head -/
theorem w_kln {X S : Sto} {K : R D → Prop} (q : W (R.ok (.loc X.length) S) K) : W (R.ok (.loc X.length) S) K := q
theorem w_tyS {r : RS} {K : RS → Prop} (q : W r K) : W r K := q
theorem w_tyD {r : R D} {K : R D → Prop} (q : W r K) : W r K := q
theorem w_tyL {r : R (List D)} {K : R (List D) → Prop} (q : W r K) : W r K := q
theorem w_tyB {r : R Bool} {K : R Bool → Prop} (q : W r K) : W r K := q
theorem w_tySrc {r : R Src} {K : R Src → Prop} (q : W r K) : W r K := q
theorem w_tyO {r : R (Option Int)} {K : R (Option Int) → Prop} (q : W r K) : W r K := q
theorem w_tyOD {r : R (Option D)} {K : R (Option D) → Prop} (q : W r K) : W r K := q
theorem w_kok {α : Type} {a : α} {S : Sto} {K : R α → Prop} (q : W (R.ok a S) K) : W (R.ok a S) K := q
theorem w_kof {α : Type} {a : Option α} {S : Sto} {K : R α → Prop} (q : W (R.of a S) K) : W (R.of a S) K := q
theorem w_kx {α : Type} {C : Addr} {fs : List (Str × D)} {S : Sto} {K : R α → Prop} (q : W (R.exc C fs S) K) : W (R.exc C fs S) K := q
theorem w_kfl {f : Fl} {S : Sto} {K : RS → Prop} (q : W (RS.fl f S) K) : W (RS.fl f S) K := q
theorem w_kex {env : Env} {C : Addr} {fs : List (Str × D)} {S : Sto} {K : RS → Prop} (q : W (RS.exc env C fs S) K) : W (RS.exc env C fs S) K := q
theorem w_kvar {i : Nat} {env : Env} {S : Sto} {K : R D → Prop} (q : W (fVar i env S) K) : W (fVar i env S) K := q
/-! frames -/
section
variable {α β : Type}
def Bk (k : α → Sto → R β) (K : R β → Prop) : R α → Prop := fun r => K (r.bind k)
def BkS (env : Env) (k : α → Sto → RS) (K : RS → Prop) : R α → Prop := fun r => K (r.bindS env k)
theorem w_ok {k : α → Sto → R β} {K : R β → Prop} {a : α} {S : Sto} (h : W (k a S) K) : W (R.ok a S) (Bk k K) := h
theorem w_ex {k : α → Sto → R β} {K : R β → Prop} {C : Addr} {fs : List (Str × D)} {S : Sto} (h : W (R.exc C fs S : R β) K) : W (R.exc C fs S : R α) (Bk k K) := h
theorem w_bind {k : α → Sto → R β} {K : R β → Prop} {r : R α} (h : W r (Bk k K)) : W (r.bind k) K := h
end
/-- the bool of a test -/
def Bt (K : R Bool → Prop) : R D → Prop := fun r => K (r.bind fun d S1 => match d with
  | .bl b => .ok b S1
  | _ => .bad)
/-- a list's head, its rest -/
def Ck (g : Fa) (env : Env) (K : R (List D) → Prop) : R D → Prop := fun r => K (r.bind fun d S1 => (g env S1).bind fun ds S2 => .ok (d :: ds) S2)
def Ck2 (d : D) (K : R (List D) → Prop) : R (List D) → Prop := fun r => K (r.bind fun ds S2 => .ok (d :: ds) S2)
def B1 (g : Sto → D → D → Option D) (fb : F) (env : Env) (K : R D → Prop) : R D → Prop := fun r => K (r.bind fun d S1 => (fb env S1).bind fun e S2 => R.of (g S2 d e) S2)
def B2 (g : Sto → D → D → Option D) (d : D) (K : R D → Prop) : R D → Prop := fun r => K (r.bind fun e S2 => R.of (g S2 d e) S2)
def U1 (g : Sto → D → Option D) (K : R D → Prop) : R D → Prop := fun r => K (r.bind fun d S1 => R.of (g S1 d) S1)
def Bu (g : Sto → List D → Option D) (K : R D → Prop) : R (List D) → Prop := fun r => K (r.bind fun ds S1 => R.of (g S1 ds) S1)
def Tk (K : R D → Prop) : R (List D) → Prop := fun r => K (r.bind fun ds S1 => .ok (.tup ds) S1)
def Lk (K : R D → Prop) : R (List D) → Prop := fun r => K (r.bind fun ds S1 => .ok (.lst ds) S1)
def Nk (K : R Bool → Prop) : R Bool → Prop := fun r => K (r.bind fun b S1 => .ok (!b) S1)
def Ak (d : Ft) (env : Env) (K : R Bool → Prop) : R Bool → Prop := fun r => K (r.bind fun b S1 => if b = true then d env S1 else .ok false S1)
def Ok (d : Ft) (env : Env) (K : R Bool → Prop) : R Bool → Prop := fun r => K (r.bind fun b S1 => if b = true then .ok true S1 else d env S1)
def Ek (fa fb : F) (env : Env) (K : R D → Prop) : R Bool → Prop := fun r => K (r.bind fun b S1 => if b = true then fa env S1 else fb env S1)
def Vk (K : R D → Prop) : R Bool → Prop := fun r => K (r.bind fun b S1 => .ok (.bl b) S1)
def AVk (g : F) (env : Env) (K : R D → Prop) : R Bool → Prop := fun r => K (r.bind fun b S1 => if b = true then g env S1 else .ok (.bl false) S1)
def OVk (g : F) (env : Env) (K : R D → Prop) : R Bool → Prop := fun r => K (r.bind fun b S1 => if b = true then .ok (.bl true) S1 else g env S1)
def Fk (fn : Fn) (K : R D → Prop) : R (List D) → Prop := fun r => K (r.bind fun ds S1 => fn (ds ++ []) S1)
def FHk (fn : Fn) (K : R D → Prop) : R (List D) → Prop := fun r => K (r.bind fun ds S1 => (fn ds S1).noX)
def NXk {α : Type} (K : R α → Prop) : R α → Prop := fun r => K r.noX
/-! statements -/
def Sk (h : SF) (K : RS → Prop) : RS → Prop := fun r => K (match r with
  | .fl (.nx env') S' => h env' S'
  | r => r)
def Ik (g h : SF) (env : Env) (K : RS → Prop) : R Bool → Prop := fun r => K (r.bindS env fun b S1 => if b = true then g env S1 else h env S1)
def Dk (env : Env) (K : RS → Prop) : R D → Prop := fun r => K (r.bindS env fun _ S1 => .fl (.nx env) S1)
def Rk (env : Env) (K : RS → Prop) : R D → Prop := fun r => K (r.bindS env fun d S1 => .fl (.rt d) S1)
def Gk (g : TGf) (env : Env) (K : RS → Prop) : R D → Prop := fun r => K (r.bindS env fun d S1 => match g d env S1 with
  | some env' => .fl (.nx env') S1
  | none => .bad)
def Of (K : R D → Prop) : RS → Prop := fun r => K r.out
def Uk (i : Nat) (K : RS → Prop) : RS → Prop := fun r => K (sSuite i r)
def Xk (ex : List (Addr × Bool)) (i : Nat) (h : SF) (K : RS → Prop) : RS → Prop := fun r => K (match r with
  | .exc env' C fs S' => (match ex.lookup C with
    | some true => sSuite i (h (env'.set i (some (.exn C fs))) S')
    | some false => .exc env' C fs S'
    | none => .bad)
  | r => r)
def Zk (S : Sto) (K : R D → Prop) : R D → Prop := fun r => K (frzR S r)
section
variable {env : Env} {S : Sto} {d e : D} {ds : List D} {f fa fb : F} {fs : Fa} {ft fu : Ft} {g h : SF} {b : Bool} {p : Prop} [Decidable p]
variable {K : R D → Prop} {KB : R Bool → Prop} {KL : R (List D) → Prop} {KS : RS → Prop} {C : Addr} {xs : List (Str × D)}
theorem w_kG {i : Nat} {r : R D} (q : W r (Gk (gN i) env KS)) : W r (Gk (gN i) env KS) := q
theorem w_kIk {r : R Bool} (q : W r (Ik g h env KS)) : W r (Ik g h env KS) := q
theorem w_kAk {r : R Bool} (q : W r (Ak fu env KB)) : W r (Ak fu env KB) := q
theorem w_kOk {r : R Bool} (q : W r (Ok fu env KB)) : W r (Ok fu env KB) := q
theorem w_kEk {r : R Bool} (q : W r (Ek fa fb env K)) : W r (Ek fa fb env K) := q
theorem w_kAVk {r : R Bool} (q : W r (AVk f env K)) : W r (AVk f env K) := q
theorem w_kOVk {r : R Bool} (q : W r (OVk f env K)) : W r (OVk f env K) := q
theorem w_c (q : W (R.ok d S) K) : W (fC d env S) K := q
theorem w_bin {o : Sto → D → D → Option D} (q : W (fa env S) (B1 o fb env K)) : W (fBin o fa fb env S) K := q
theorem w_b1 {o : Sto → D → D → Option D} (q : W (fb env S) (B2 o d K)) : W (R.ok d S) (B1 o fb env K) := q
theorem w_b2 {o : Sto → D → D → Option D} (q : W (R.of (o S d e) S) K) : W (R.ok e S) (B2 o d K) := q
theorem w_un {o : Sto → D → Option D} (q : W (fa env S) (U1 o K)) : W (fUn o fa env S) K := q
theorem w_u1 {o : Sto → D → Option D} (q : W (R.of (o S d) S) K) : W (R.ok d S) (U1 o K) := q
theorem w_bu {o : Sto → List D → Option D} (q : W (fs env S) (Bu o K)) : W (fBu o fs env S) K := q
theorem w_bu1 {o : Sto → List D → Option D} (q : W (R.of (o S ds) S) K) : W (R.ok ds S) (Bu o K) := q
theorem w_nil (q : W (R.ok [] S) KL) : W (fNil env S) KL := q
theorem w_cons {gs : Fa} (q : W (f env S) (Ck gs env KL)) : W (fCons f gs env S) KL := q
theorem w_c1 {gs : Fa} (q : W (gs env S) (Ck2 d KL)) : W (R.ok d S) (Ck gs env KL) := q
theorem w_c2 (q : W (R.ok (d :: ds) S) KL) : W (R.ok ds S) (Ck2 d KL) := q
theorem w_tup (q : W (fs env S) (Tk K)) : W (fTup fs env S) K := q
theorem w_tup1 (q : W (R.ok (.tup ds) S) K) : W (R.ok ds S) (Tk K) := q
theorem w_lst (q : W (fs env S) (Lk K)) : W (fLst fs env S) K := q
theorem w_lst1 (q : W (R.ok (.lst ds) S) K) : W (R.ok ds S) (Lk K) := q
theorem w_of {o : Option D} (e : o = some d) (q : W (R.ok d S) K) : W (R.of o S) K := by rw [e]; exact q
theorem w_B (q : W (f env S) (Bt KB)) : W (fB f env S) KB := q
theorem w_B1 (q : W (R.ok b S) KB) : W (R.ok (.bl b) S) (Bt KB) := q
theorem w_not (q : W (ft env S) (Nk KB)) : W (fNot ft env S) KB := q
theorem w_not1 (q : W (R.ok (!b) S) KB) : W (R.ok b S) (Nk KB) := q
theorem w_not_t (q : W (R.ok false S) KB) : W (R.ok true S) (Nk KB) := q
theorem w_not_f (q : W (R.ok true S) KB) : W (R.ok false S) (Nk KB) := q
theorem w_and (q : W (ft env S) (Ak fu env KB)) : W (fAnd ft fu env S) KB := q
theorem w_or (q : W (ft env S) (Ok fu env KB)) : W (fOr ft fu env S) KB := q
theorem w_ife (q : W (ft env S) (Ek fa fb env K)) : W (fIf ft fa fb env S) K := q
theorem w_V1 (q : W (R.ok (.bl b) S) K) : W (R.ok b S) (Vk K) := q
theorem w_notV (q : W (f env S) (Bt (Nk (Vk K)))) : W (fNotV f env S) K := by
  have q : K ((((f env S).bind _).bind fun b S1 => .ok (!b) S1).bind fun b S1 => .ok (.bl b) S1) := q
  exact q
theorem w_andV (q : W (fa env S) (Bt (AVk fb env K))) : W (fAndV fa fb env S) K := q
theorem w_orV (q : W (fa env S) (Bt (OVk fb env K))) : W (fOrV fa fb env S) K := q
theorem w_and_t (q : W (fu env S) KB) : W (R.ok true S) (Ak fu env KB) := q
theorem w_and_f (q : W (R.ok false S) KB) : W (R.ok false S) (Ak fu env KB) := q
theorem w_and_b (q1 : b = true → W (fu env S) KB) (q2 : b = false → W (R.ok false S) KB) : W (R.ok b S) (Ak fu env KB) := by cases b with | true => exact q1 rfl | false => exact q2 rfl
theorem w_and_d (q1 : p → W (fu env S) KB) (q2 : ¬ p → W (R.ok false S) KB) : W (R.ok (decide p) S) (Ak fu env KB) := w_and_b (fun z => q1 (of_decide_eq_true z)) (fun z => q2 (of_decide_eq_false z))
theorem w_and_n (q1 : ¬ p → W (fu env S) KB) (q2 : p → W (R.ok false S) KB) : W (R.ok (!decide p) S) (Ak fu env KB) := w_and_b (fun z => q1 (of_decide_eq_false (by simpa using z))) (fun z => q2 (of_decide_eq_true (by simpa using z)))
theorem w_or_t (q : W (R.ok true S) KB) : W (R.ok true S) (Ok fu env KB) := q
theorem w_or_f (q : W (fu env S) KB) : W (R.ok false S) (Ok fu env KB) := q
theorem w_or_b (q1 : b = true → W (R.ok true S) KB) (q2 : b = false → W (fu env S) KB) : W (R.ok b S) (Ok fu env KB) := by cases b with | true => exact q1 rfl | false => exact q2 rfl
theorem w_or_d (q1 : p → W (R.ok true S) KB) (q2 : ¬ p → W (fu env S) KB) : W (R.ok (decide p) S) (Ok fu env KB) := w_or_b (fun z => q1 (of_decide_eq_true z)) (fun z => q2 (of_decide_eq_false z))
theorem w_or_n (q1 : ¬ p → W (R.ok true S) KB) (q2 : p → W (fu env S) KB) : W (R.ok (!decide p) S) (Ok fu env KB) := w_or_b (fun z => q1 (of_decide_eq_false (by simpa using z))) (fun z => q2 (of_decide_eq_true (by simpa using z)))
theorem w_ife_t (q : W (fa env S) K) : W (R.ok true S) (Ek fa fb env K) := q
theorem w_ife_f (q : W (fb env S) K) : W (R.ok false S) (Ek fa fb env K) := q
theorem w_ife_b (q1 : b = true → W (fa env S) K) (q2 : b = false → W (fb env S) K) : W (R.ok b S) (Ek fa fb env K) := by cases b with | true => exact q1 rfl | false => exact q2 rfl
theorem w_ife_d (q1 : p → W (fa env S) K) (q2 : ¬ p → W (fb env S) K) : W (R.ok (decide p) S) (Ek fa fb env K) := w_ife_b (fun z => q1 (of_decide_eq_true z)) (fun z => q2 (of_decide_eq_false z))
theorem w_ife_n (q1 : ¬ p → W (fa env S) K) (q2 : p → W (fb env S) K) : W (R.ok (!decide p) S) (Ek fa fb env K) := w_ife_b (fun z => q1 (of_decide_eq_false (by simpa using z))) (fun z => q2 (of_decide_eq_true (by simpa using z)))
theorem w_andV_t (q : W (f env S) K) : W (R.ok true S) (AVk f env K) := q
theorem w_andV_f (q : W (R.ok (.bl false) S) K) : W (R.ok false S) (AVk f env K) := q
theorem w_andV_b (q1 : b = true → W (f env S) K) (q2 : b = false → W (R.ok (.bl false) S) K) : W (R.ok b S) (AVk f env K) := by cases b with | true => exact q1 rfl | false => exact q2 rfl
theorem w_andV_d (q1 : p → W (f env S) K) (q2 : ¬ p → W (R.ok (.bl false) S) K) : W (R.ok (decide p) S) (AVk f env K) := w_andV_b (fun z => q1 (of_decide_eq_true z)) (fun z => q2 (of_decide_eq_false z))
theorem w_andV_n (q1 : ¬ p → W (f env S) K) (q2 : p → W (R.ok (.bl false) S) K) : W (R.ok (!decide p) S) (AVk f env K) := w_andV_b (fun z => q1 (of_decide_eq_false (by simpa using z))) (fun z => q2 (of_decide_eq_true (by simpa using z)))
theorem w_orV_t (q : W (R.ok (.bl true) S) K) : W (R.ok true S) (OVk f env K) := q
theorem w_orV_f (q : W (f env S) K) : W (R.ok false S) (OVk f env K) := q
theorem w_orV_b (q1 : b = true → W (R.ok (.bl true) S) K) (q2 : b = false → W (f env S) K) : W (R.ok b S) (OVk f env K) := by cases b with | true => exact q1 rfl | false => exact q2 rfl
theorem w_orV_d (q1 : p → W (R.ok (.bl true) S) K) (q2 : ¬ p → W (f env S) K) : W (R.ok (decide p) S) (OVk f env K) := w_orV_b (fun z => q1 (of_decide_eq_true z)) (fun z => q2 (of_decide_eq_false z))
theorem w_orV_n (q1 : ¬ p → W (R.ok (.bl true) S) K) (q2 : p → W (f env S) K) : W (R.ok (!decide p) S) (OVk f env K) := w_orV_b (fun z => q1 (of_decide_eq_false (by simpa using z))) (fun z => q2 (of_decide_eq_true (by simpa using z)))
theorem w_if_t (q : W (g env S) KS) : W (R.ok true S) (Ik g h env KS) := q
theorem w_if_f (q : W (h env S) KS) : W (R.ok false S) (Ik g h env KS) := q
theorem w_if_b (q1 : b = true → W (g env S) KS) (q2 : b = false → W (h env S) KS) : W (R.ok b S) (Ik g h env KS) := by cases b with | true => exact q1 rfl | false => exact q2 rfl
theorem w_if_d (q1 : p → W (g env S) KS) (q2 : ¬ p → W (h env S) KS) : W (R.ok (decide p) S) (Ik g h env KS) := w_if_b (fun z => q1 (of_decide_eq_true z)) (fun z => q2 (of_decide_eq_false z))
theorem w_if_n (q1 : ¬ p → W (g env S) KS) (q2 : p → W (h env S) KS) : W (R.ok (!decide p) S) (Ik g h env KS) := w_if_b (fun z => q1 (of_decide_eq_false (by simpa using z))) (fun z => q2 (of_decide_eq_true (by simpa using z)))

theorem w_call {fn : Fn} (q : W (fs env S) (Fk fn K)) : W (fCall fn [] fs env S) K := q
theorem w_call1 {fn : Fn} (q : W (fn ds S) K) : W (R.ok ds S) (Fk fn K) := by
  have q : K (fn (ds ++ []) S) := by rw [List.append_nil]; exact q
  exact q
theorem w_callD {fn : Fn} {dd : List D} (q : W (fs env S) (Bk (fun ds S1 => fn (ds ++ dd) S1) K)) : W (fCall fn dd fs env S) K := q
theorem w_callN {fn : Fn} {gd : List D → List D → List D} {ks : Fa} (q : W (fs env S) (Bk (fun ds S1 => (ks env S1).bind fun es S2 => fn (gd ds es) S2) K)) : W (fCallN fn gd fs ks env S) K := q
theorem w_callH {fn : Fn} (q : W (fs env S) (FHk fn K)) : W (fCallH fn fs env S) K := q
theorem w_callH1 {fn : Fn} (q : W (fn ds S) (NXk K)) : W (R.ok ds S) (FHk fn K) := q
theorem w_nx1 {α : Type} {a : α} {K : R α → Prop} (q : W (R.ok a S) K) : W (R.ok a S) (NXk K) := q
theorem w_nx {α : Type} {r : R α} {K : R α → Prop} (q : W r (NXk K)) : W r.noX K := q
theorem w_part {KO : R (Option Int) → Prop} (q : W (f env S) (Bk (fun d S1 => match d with
  | .int i => .ok (some i) S1
  | _ => .bad) KO)) : W (fPart f env S) KO := q
theorem w_part1 {KO : R (Option Int) → Prop} {i : Int} (q : W (R.ok (some i) S) KO) : W (R.ok (D.int i) S) (Bk (fun d S1 => match d with
  | .int i => .ok (some i) S1
  | _ => .bad) KO) := q
theorem w_nop {KO : R (Option Int) → Prop} (q : W (R.ok none S) KO) : W (fNoP env S) KO := q
theorem w_sl {o : Sto → D → Option Int → Option Int → Option D} {fl fh : Fo} (q : W (f env S) (Bk (fun d S1 => (fl env S1).bind fun l S2 => (fh env S2).bind fun h S3 => R.of (o S3 d l h) S3) K)) : W (fSlG o f fl fh env S) K := q
theorem w_exf {cls : List Addr} {n : Str} {C : Addr} {gs : List (Str × D)} (hc : (decide (C ∈ cls)) = true) (hl : gs.lookup n = some d) (q : W (R.ok d S) K) : W (R.ok (D.exn C gs) S) (Bk (fun d S1 => match d with
  | D.exn C fs => if C ∈ cls then R.of (fs.lookup n) S1 else .bad
  | _ => .bad) K) := by
  show K (if C ∈ cls then R.of (gs.lookup n) S else .bad)
  rw [if_pos (of_decide_eq_true hc), hl]
  exact q
theorem w_exf0 {cls : List Addr} {n : Str} (q : W (f env S) (Bk (fun d S1 => match d with
  | .exn C fs => if C ∈ cls then R.of (fs.lookup n) S1 else .bad
  | _ => .bad) K)) : W (fExf cls n f env S) K := q
/-! statements -/
theorem w_seq (q : W (g env S) (Sk h KS)) : W (sSeq g h env S) KS := q
theorem w_nx0 (q : W (h env S) KS) : W (RS.fl (.nx env) S) (Sk h KS) := q
theorem w_rt0 (q : W (RS.fl (.rt d) S) KS) : W (RS.fl (.rt d) S) (Sk h KS) := q
theorem w_bk0 (q : W (RS.fl (.bk env) S) KS) : W (RS.fl (.bk env) S) (Sk h KS) := q
theorem w_ct0 (q : W (RS.fl (.ct env) S) KS) : W (RS.fl (.ct env) S) (Sk h KS) := q
theorem w_ex0 (q : W (RS.exc env C xs S) KS) : W (RS.exc env C xs S) (Sk h KS) := q
theorem w_next (q : W (RS.fl (.nx env) S) KS) : W (sNext env S) KS := q
theorem w_if (q : W (ft env S) (Ik g h env KS)) : W (sIf ft g h env S) KS := q
theorem w_drop (q : W (f env S) (Dk env KS)) : W (sDrop f env S) KS := q
theorem w_drop1 (q : W (RS.fl (.nx env) S) KS) : W (R.ok d S) (Dk env KS) := q
theorem w_dropx (q : W (RS.exc env C xs S) KS) : W (R.exc C xs S) (Dk env KS) := q
theorem w_ret (q : W (f env S) (Rk env KS)) : W (sRet f env S) KS := q
theorem w_ret1 (q : W (RS.fl (.rt d) S) KS) : W (R.ok d S) (Rk env KS) := q
theorem w_retx (q : W (RS.exc env C xs S) KS) : W (R.exc C xs S) (Rk env KS) := q
theorem w_retN (q : W (RS.fl (.rt .non) S) KS) : W (sRetN env S) KS := q
theorem w_break (q : W (RS.fl (.bk env) S) KS) : W (sBreak env S) KS := q
theorem w_cont (q : W (RS.fl (.ct env) S) KS) : W (sCont env S) KS := q
theorem w_asg {t : TGf} (q : W (f env S) (Gk t env KS)) : W (sAsg f t env S) KS := q
theorem w_asgx {t : TGf} (q : W (RS.exc env C xs S) KS) : W (R.exc C xs S) (Gk t env KS) := q
theorem w_asg1 {t : TGf} {env' : Env} (e : t d env S = some env') (q : W (RS.fl (.nx env') S) KS) : W (R.ok d S) (Gk t env KS) := by
  show KS (match t d env S with
  | some env' => .fl (.nx env') S
  | none => .bad)
  rw [e]; exact q
theorem w_out1 (q : W (R.ok d S) K) : W (RS.fl (.rt d) S) (Of K) := q
theorem w_out2 (q : W (R.ok .non S) K) : W (RS.fl (.nx env) S) (Of K) := q
theorem w_outx (q : W (R.exc C xs S) K) : W (RS.exc env C xs S) (Of K) := q
theorem w_try {ex : List (Addr × Bool)} {i : Nat} (q : W (g env S) (Xk ex i h KS)) : W (sTry ex g i h env S) KS := q
theorem w_try1 {ex : List (Addr × Bool)} {i : Nat} {f : Fl} (q : W (RS.fl f S) KS) : W (RS.fl f S) (Xk ex i h KS) := q
theorem w_tryx {i : Nat} (q : W (h (env.set i (some (.exn C xs))) S) (Uk i KS)) : W (RS.exc env C xs S) (Xk [(C, true)] i h KS) := by
  show KS (match [(C, true)].lookup C with
    | some true => sSuite i (h (env.set i (some (.exn C xs))) S)
    | some false => .exc env C xs S
    | none => .bad)
  have e : [(C, true)].lookup C = some true := by unfold List.lookup; rw [beq_self_eq_true]
  rw [e]
  exact q
theorem w_suite (hx : d.nox = true) (q : W (RS.fl (.rt d) S) KS) : W (RS.fl (.rt d) S) (Uk i KS) := by
  show KS (if d.nox = true then .fl (.rt d) S else .bad)
  rw [if_pos hx]
  exact q
/-! ints -/
variable {i j : Int}
theorem w_add (q : W (R.ok (.int (i + j)) S) K) : W (R.of (gAdd S (.int i) (.int j)) S) K := q
theorem w_sub (q : W (R.ok (.int (i - j)) S) K) : W (R.of (gSub S (.int i) (.int j)) S) K := q
theorem w_neg (q : W (R.ok (.int (-i)) S) K) : W (R.of (gNeg S (.int i)) S) K := q
theorem w_mod (h : 0 < j) (q : W (R.ok (.int (i % j)) S) K) : W (R.of (gMod S (.int i) (.int j)) S) K := w_of (gMod_int h) q
theorem w_div (h : 0 < j) (h2 : j < 1073741824) (q : W (R.ok (.int (i / j)) S) K) : W (R.of (gDiv S (.int i) (.int j)) S) K := w_of (gDiv_int h h2) q
theorem gMulA_int (h : -1000000000000000 < i ∧ i < 1000000000000000) : gMulA S (.int i) (.int j) = some (.int (i * j)) := by
  unfold gMulA
  rw [gMul_int ⟨by omega, by omega⟩]
theorem gMulA_int' (h : -1000000000000000 < j ∧ j < 1000000000000000) : gMulA S (.int i) (.int j) = some (.int (i * j)) := by
  unfold gMulA
  have e : gMul S (.int i) (.int j) = some (.int (i * j)) := if_pos (decide_eq_true (.inr ⟨by omega, by omega⟩))
  rw [e]
theorem w_mul1 (h : -1000000000000000 < i) (h2 : i < 1000000000000000) (q : W (R.ok (.int (i * j)) S) K) : W (R.of (gMulA S (.int i) (.int j)) S) K := w_of (gMulA_int ⟨h, h2⟩) q
theorem w_mul2 (h : -1000000000000000 < j) (h2 : j < 1000000000000000) (q : W (R.ok (.int (i * j)) S) K) : W (R.of (gMulA S (.int i) (.int j)) S) K := w_of (gMulA_int' ⟨h, h2⟩) q
theorem w_lt (q : W (R.ok (.bl (decide (i < j))) S) K) : W (R.of (gLt S (.int i) (.int j)) S) K := q
theorem w_le (q : W (R.ok (.bl (decide (i ≤ j))) S) K) : W (R.of (gLe S (.int i) (.int j)) S) K := q
theorem w_gt (q : W (R.ok (.bl (decide (j < i))) S) K) : W (R.of (gGt S (.int i) (.int j)) S) K := q
theorem w_ge (q : W (R.ok (.bl (decide (j ≤ i))) S) K) : W (R.of (gGe S (.int i) (.int j)) S) K := q
theorem w_eqI (q : W (R.ok (.bl (decide (i = j))) S) K) : W (R.of (gEq false S (.int i) (.int j)) S) K := w_of gEq_int q
theorem w_neI (q : W (R.ok (.bl (!decide (i = j))) S) K) : W (R.of (gEq true S (.int i) (.int j)) S) K := w_of gNe_int q
theorem w_i2 {f : Int → Int → Int} (q : W (R.ok (.int (f i j)) S) K) : W (R.of (gI2C f S [.int i, .int j]) S) K := q
theorem w_abs (q : W (R.ok (.int (if i < 0 then -i else i)) S) K) : W (R.of (gAbs S [.int i]) S) K := q
theorem w_int (q : W (R.ok (.int i) S) K) : W (R.of (gInt S [.int i]) S) K := q
/-! lists -/
section
variable {α : Type} {enc : α → D} {l l2 : List α}
theorem w_lenL (q : W (R.ok (.int l.length) S) K) : W (R.of (gLen S [.lst (l.map enc)]) S) K := by
  have q : W (R.ok (D.int ((l.map enc).length : Nat)) S) K := by rw [List.length_map]; exact q
  exact q
theorem w_lenF (q : W (R.ok (.int l.length) S) K) : W (R.of (gLen S [.fls (l.map enc)]) S) K := by
  have q : W (R.ok (D.int ((l.map enc).length : Nat)) S) K := by rw [List.length_map]; exact q
  exact q
theorem w_lenT (q : W (R.ok (.int l.length) S) K) : W (R.of (gLen S [.tup (l.map enc)]) S) K := by
  have q : W (R.ok (D.int ((l.map enc).length : Nat)) S) K := by rw [List.length_map]; exact q
  exact q
theorem w_lenL0 (q : W (R.ok (.int (ds.length : Nat)) S) K) : W (R.of (gLen S [.lst ds]) S) K := q
theorem w_lenT0 (q : W (R.ok (.int (ds.length : Nat)) S) K) : W (R.of (gLen S [.tup ds]) S) K := q
theorem ixmap (h0 : 0 ≤ i) (h1 : i < (l.length : Int)) : ∃ x, x ∈ l ∧ l[i.toNat]? = some x ∧ atI (l.map enc) i = some (enc x) := by
  have hk : i.toNat < l.length := by omega
  refine ⟨l[i.toNat], List.getElem_mem hk, List.getElem?_eq_getElem hk, ?_⟩
  have e : (l.map enc)[i.toNat]? = some (enc l[i.toNat]) := by rw [List.getElem?_map, List.getElem?_eq_getElem hk]; rfl
  have := atI_nat e
  rwa [Int.toNat_of_nonneg h0] at this
theorem w_ixL (h0 : 0 ≤ i) (h1 : i < (l.length : Int)) (q : ∀ x, x ∈ l → l[i.toNat]? = some x → W (R.ok (enc x) S) K) : W (R.of (gIx S (.lst (l.map enc)) (.int i)) S) K := by
  obtain ⟨x, hx, hg, e⟩ := ixmap (enc := enc) h0 h1
  exact w_of (show gIx S (.lst (l.map enc)) (.int i) = some (enc x) from e) (q x hx hg)
theorem w_ixT (h0 : 0 ≤ i) (h1 : i < (l.length : Int)) (q : ∀ x, x ∈ l → l[i.toNat]? = some x → W (R.ok (enc x) S) K) : W (R.of (gIx S (.tup (l.map enc)) (.int i)) S) K := by
  obtain ⟨x, hx, hg, e⟩ := ixmap (enc := enc) h0 h1
  exact w_of (show gIx S (.tup (l.map enc)) (.int i) = some (enc x) from e) (q x hx hg)
theorem w_ixT1 {x y : D} (q : W (R.ok y S) K) : W (R.of (gIx S (.tup (x :: y :: ds)) (.int 1)) S) K := w_of (gIx_tup (k := 1) rfl) q
theorem w_ixT0 {x : D} (q : W (R.ok x S) K) : W (R.of (gIx S (.tup (x :: ds)) (.int 0)) S) K := w_of (gIx_tup (k := 0) rfl) q
theorem w_ixT2 {x y z : D} (q : W (R.ok z S) K) : W (R.of (gIx S (.tup (x :: y :: z :: ds)) (.int 2)) S) K := w_of (gIx_tup (k := 2) rfl) q
theorem w_ixL0 {x : D} (q : W (R.ok x S) K) : W (R.of (gIx S (.lst (x :: ds)) (.int 0)) S) K := w_of (gIx_lst (k := 0) rfl) q
theorem w_ixL1 {x y : D} (q : W (R.ok y S) K) : W (R.of (gIx S (.lst (x :: y :: ds)) (.int 1)) S) K := w_of (gIx_lst (k := 1) rfl) q
theorem w_ixL2 {x y z : D} (q : W (R.ok z S) K) : W (R.of (gIx S (.lst (x :: y :: z :: ds)) (.int 2)) S) K := w_of (gIx_lst (k := 2) rfl) q
theorem w_ixL3 {x y z v : D} (q : W (R.ok v S) K) : W (R.of (gIx S (.lst (x :: y :: z :: v :: ds)) (.int 3)) S) K := w_of (gIx_lst (k := 3) rfl) q
theorem w_catM (hl : l.length + l2.length ≤ 16777216) (q : W (R.ok (.lst ((l ++ l2).map enc)) S) K) : W (R.of (gAdd S (.lst (l.map enc)) (.lst (l2.map enc))) S) K := by
  refine w_of (gCat_lst (by rw [List.length_map, List.length_map]; exact hl)) ?_
  rw [← List.map_append]; exact q
theorem w_cat1 {x : α} {y : D} (hy : y = enc x) (hl : l.length + 1 ≤ 16777216) (q : W (R.ok (.lst ((l ++ [x]).map enc)) S) K) : W (R.of (gAdd S (.lst (l.map enc)) (.lst [y])) S) K := by
  subst hy
  exact w_catM (l2 := [x]) hl q
theorem w_cat {as bs : List D} (hl : as.length + bs.length ≤ 16777216) (q : W (R.ok (.lst (as ++ bs)) S) K) : W (R.of (gAdd S (.lst as) (.lst bs)) S) K := w_of (gCat_lst hl) q
theorem w_tplL (q : W (R.ok (.tup ds) S) K) : W (R.of (gTuple S [.lst ds]) S) K := q
theorem w_tplF (q : W (R.ok (.tup ds) S) K) : W (R.of (gTuple S [.fls ds]) S) K := q
theorem w_tplT (q : W (R.ok (.tup ds) S) K) : W (R.of (gTuple S [.tup ds]) S) K := q
theorem w_lstL (q : W (R.ok (.lst ds) S) K) : W (R.of ((fun S ds => (gList S ds).map D.lst) S [.lst ds]) S) K := q
theorem w_lstT (q : W (R.ok (.lst ds) S) K) : W (R.of ((fun S ds => (gList S ds).map D.lst) S [.tup ds]) S) K := q
theorem w_lstF (q : W (R.ok (.lst ds) S) K) : W (R.of ((fun S ds => (gList S ds).map D.lst) S [.fls ds]) S) K := q
end

/-! loops -/
theorem w_for {fi : Fi} {t : TGf} {b : SF} (q : W (fi env S) (BkS env (fun s S1 => sForS s (fun d env S => match t d env S with
  | some env' => b env' S
  | none => .bad) env S1) KS)) : W (sFor fi t b env S) KS := q
theorem w_iseq {KI : R Src → Prop} (q : W (f env S) (Bk (fun d S1 => R.of (srcOf S1 d) S1) KI)) : W (iSeq f env S) KI := q
theorem w_irng {KI : R Src → Prop} {o : List D → Option Src} (q : W (fs env S) (Bk (fun ds S1 => R.of (o ds) S1) KI)) : W (iRng o fs env S) KI := q
theorem w_srcL {KI : R Src → Prop} (q : W (R.ok (.fix ds) S) KI) : W (R.of (srcOf S (.lst ds)) S) KI := q
theorem w_srcT {KI : R Src → Prop} (q : W (R.ok (.fix ds) S) KI) : W (R.of (srcOf S (.tup ds)) S) KI := q
theorem w_srcF {KI : R Src → Prop} (q : W (R.ok (.fix ds) S) KI) : W (R.of (srcOf S (.fls ds)) S) KI := q
theorem w_ofS {α : Type} {o : Option α} {a : α} {K : R α → Prop} (e : o = some a) (q : W (R.ok a S) K) : W (R.of o S) K := by rw [e]; exact q
theorem small_of (h0 : -1000000000000000 < i) (h1 : i < 1000000000000000) : smallI i = true := decide_eq_true ⟨by omega, by omega⟩
theorem rng_cast (n : Nat) : rngD 0 n = (List.range n).map fun i : Nat => D.int (i : Int) := by
  unfold rngD
  congr 1
  funext i
  rw [Int.zero_add]
theorem w_rng1 {KI : R Src → Prop} (h0 : -1000000000000000 < i) (h1 : i < 1000000000000000) (q : W (R.ok (.fix ((List.range i.toNat).map fun k : Nat => D.int (k : Int))) S) KI) : W (R.of (gRng1 [.int i]) S) KI := by
  refine w_ofS (gRng1_j (small_of h0 h1)) ?_
  rw [rng_cast]
  exact q
theorem w_rng2 {KI : R Src → Prop} (h0 : -1000000000000000 < i) (h1 : i < 1000000000000000) (h2 : -1000000000000000 < j) (h3 : j < 1000000000000000) (q : W (R.ok (.fix ((List.range (j - i).toNat).map fun k : Nat => D.int (i + (k : Int)))) S) KI) : W (R.of (gRng2 [.int i, .int j]) S) KI := by
  refine w_ofS (a := .fix (rngD i (j - i).toNat)) ?_ q
  unfold gRng2
  simp only [small_of h0 h1, small_of h2 h3, Bool.and_self, if_true]
/-- a loop over encoded items by its invariant: what is done, what is left -/
def Lp (I : Env → Sto → Prop) (K : RS → Prop) : RS → Prop := fun r => match r with
  | .fl (.nx env) S => I env S
  | .fl (.ct env) S => I env S
  | .fl (.bk env) S => K (.fl (.nx env) S)
  | r => K r
theorem w_lp1 {I : Env → Sto → Prop} (q : I env S) : W (RS.fl (.nx env) S) (Lp I KS) := q
theorem w_lp3 {I : Env → Sto → Prop} (q : W (RS.fl (.nx env) S) KS) : W (RS.fl (.bk env) S) (Lp I KS) := q
theorem w_lp4 {I : Env → Sto → Prop} (q : W (RS.fl (.rt d) S) KS) : W (RS.fl (.rt d) S) (Lp I KS) := q
theorem w_lp5 {I : Env → Sto → Prop} (q : W (RS.exc env C xs S) KS) : W (RS.exc env C xs S) (Lp I KS) := q
theorem w_loop {α : Type} {enc : α → D} {body : D → SF} (I : List α → List α → Env → Sto → Prop) : ∀ (post pre : List α) (env : Env) (S : Sto), I pre post env S →
    (∀ pre x post env S, I pre (x :: post) env S → W (body (enc x) env S) (Lp (I (pre ++ [x]) post) KS)) →
    (∀ pre env S, I pre [] env S → W (RS.fl (.nx env) S) KS) → W (forL body (post.map enc) env S) KS
  | [], pre, env, S, h, _, he => he pre env S h
  | x :: post, pre, env, S, h, st, he => by
    have q := st pre x post env S h
    show KS (match body (enc x) env S with
    | .fl (.nx env') S' => forL body (post.map enc) env' S'
    | .fl (.ct env') S' => forL body (post.map enc) env' S'
    | .fl (.bk env') S' => .fl (.nx env') S'
    | r => r)
    cases g : body (enc x) env S with
    | bad => rw [g] at q; exact q
    | exc env' C fs S' => rw [g] at q; exact q
    | fl f S' =>
      rw [g] at q
      cases f with
      | nx env' => exact w_loop I post (pre ++ [x]) env' S' q st he
      | ct env' => exact w_loop I post (pre ++ [x]) env' S' q st he
      | bk env' => exact q
      | rt d => exact q
theorem w_for_fix {α : Type} {enc : α → D} {l : List α} {body : D → SF} (I : List α → List α → Env → Sto → Prop) (h0 : I [] l env S)
    (st : ∀ pre x post env S, pre ++ x :: post = l → I pre (x :: post) env S → W (body (enc x) env S) (Lp (I (pre ++ [x]) post) KS))
    (he : ∀ env S, I l [] env S → W (RS.fl (.nx env) S) KS) : W (R.ok (Src.fix (l.map enc)) S) (BkS env (fun s S1 => sForS s body env S1) KS) := by
  refine w_loop (fun pre post env S => pre ++ post = l ∧ I pre post env S) l [] env S ⟨rfl, h0⟩ (fun pre x post env S h => ?_) fun pre env S h => ?_
  · refine w_mid _ (st pre x post env S h.1 h.2) fun r hr => ?_
    cases r with
    | fl f S =>
      cases f with
      | nx e => exact ⟨by rw [List.append_assoc]; exact h.1, hr⟩
      | ct e => exact ⟨by rw [List.append_assoc]; exact h.1, hr⟩
      | bk e => exact hr
      | rt d => exact hr
    | exc _ _ _ _ => exact hr
    | bad => exact hr
  · have e : pre = l := by simpa using h.1
    subst e
    exact he env S h.2
/-- a loop over range(n): by its number -/
theorem w_for_rng {n : Nat} {c0 : Int} {body : D → SF} (I : Nat → Env → Sto → Prop) (h0 : I 0 env S)
    (st : ∀ (k : Nat) env S, k < n → I k env S → W (body (.int (c0 + (k : Int))) env S) (Lp (I (k + 1)) KS))
    (he : ∀ env S, I n env S → W (RS.fl (.nx env) S) KS) : W (R.ok (Src.fix ((List.range n).map fun k : Nat => D.int (c0 + (k : Int)))) S) (BkS env (fun s S1 => sForS s body env S1) KS) := by
  refine w_for_fix (fun pre post env S => I pre.length env S) h0 (fun pre x post env S e h => ?_) fun env S h => he env S (by simpa using h)
  have hx : x = pre.length ∧ pre.length < n := by
    have e1 : (List.range n)[pre.length]? = some x := by rw [← e]; simp
    obtain ⟨h1, h2⟩ := List.getElem?_eq_some_iff.mp e1
    rw [List.getElem_range] at h2
    exact ⟨h2.symm, by simpa using h1⟩
  rw [hx.1]
  have := st pre.length env S hx.2 h
  rw [List.length_append]
  exact this
theorem w_for_rng0 {n : Nat} {body : D → SF} (I : Nat → Env → Sto → Prop) (h0 : I 0 env S)
    (st : ∀ (k : Nat) env S, k < n → I k env S → W (body (.int (k : Int)) env S) (Lp (I (k + 1)) KS))
    (he : ∀ env S, I n env S → W (RS.fl (.nx env) S) KS) : W (R.ok (Src.fix ((List.range n).map fun k : Nat => D.int (k : Int))) S) (BkS env (fun s S1 => sForS s body env S1) KS) := by
  have e : ((List.range n).map fun k : Nat => D.int (k : Int)) = (List.range n).map fun k : Nat => D.int (0 + (k : Int)) := by
    congr 1
    funext i
    rw [Int.zero_add]
  rw [e]
  exact w_for_rng (c0 := 0) I h0 (fun k env S hk hI => by rw [Int.zero_add]; exact st k env S hk hI) he
theorem w_body {t : TGf} {b : SF} {env' : Env} (e : t d env S = some env') (q : W (b env' S) KS) : W ((fun d env S => match t d env S with
  | some env' => b env' S
  | none => RS.bad) d env S) KS := by
  show KS (match t d env S with
  | some env' => b env' S
  | none => RS.bad)
  rw [e]; exact q
/-! comprehensions -/
def LC (env : Env) (t : TGf) (ft : Ft) (fe : F) (vs : List Nat) (K : R (List D) → Prop) : R Src → Prop := fun r => K (r.bind fun s S1 => lcS s (lcBody t ft fe (wipeE env vs)) (s.fuel S1) 0 [] S1)
theorem w_lc {fi : Fi} {t : TGf} {fe : F} {vs : List Nat} (q : W (fi env S) (LC env t ft fe vs (Lk K))) : W (fLc fi t ft fe vs env S) K := q
def LLk (K : R D → Prop) : R (List D) → Prop := fun r => K (r.bind fun ds S1 => .ok (.loc S1.length) (S1 ++ [.lst ds]))
theorem w_llk (q : W (R.ok (.loc S.length) (S ++ [.lst ds])) K) : W (R.ok ds S) (LLk K) := q
theorem w_lcL {fi : Fi} {t : TGf} {fe : F} {vs : List Nat} (q : W (fi env S) (LC env t ft fe vs (LLk K))) : W (fLcL fi t ft fe vs env S) K := q
/-- pure elements: what the test and the element are -/
theorem w_lcP {α β : Type} {enc : α → D} {enc2 : β → D} {l : List α} {t : TGf} {fe : F} {vs : List Nat} (hh : α → Option β) (hl : l.length ≤ 16777216)
    (hb : ∀ x ∈ l, W (lcBody t ft fe (wipeE env vs) (enc x) S) (fun r => r = .ok ((hh x).map enc2) S))
    (q : W (R.ok ((l.filterMap hh).map enc2) S) KL) : W (R.ok (Src.fix (l.map enc)) S) (LC env t ft fe vs KL) := by
  show KL (lcS (.fix (l.map enc)) (lcBody t ft fe (wipeE env vs)) (l.map enc).length 0 [] S)
  rw [lcS_fix (l.map enc) (l.map enc) 0 [] S rfl]
  have e : ∀ (l : List α) (acc : List D), acc.length + l.length ≤ 16777216 → (∀ x ∈ l, lcBody t ft fe (wipeE env vs) (enc x) S = .ok ((hh x).map enc2) S) → lcL (lcBody t ft fe (wipeE env vs)) (l.map enc) acc S = .ok (acc ++ (l.filterMap hh).map enc2) S := by
    intro l
    induction l with
    | nil => intro acc _ _; simp [lcL]
    | cons x r ih =>
      intro acc hl hb
      have hl : acc.length + (r.length + 1) ≤ 16777216 := hl
      rw [List.map_cons]
      unfold lcL
      rw [hb x List.mem_cons_self]
      have hr : ∀ x ∈ r, lcBody t ft fe (wipeE env vs) (enc x) S = .ok ((hh x).map enc2) S := fun x hx => hb x (List.mem_cons_of_mem _ hx)
      show (match (hh x).map enc2 with
        | some z => if acc.length < sizeLine then lcL (lcBody t ft fe (wipeE env vs)) (r.map enc) (acc ++ [z]) S else .bad
        | none => lcL (lcBody t ft fe (wipeE env vs)) (r.map enc) acc S) = _
      cases g : hh x with
      | none =>
        rw [List.filterMap_cons, g]
        exact ih acc (by omega) hr
      | some z =>
        rw [List.filterMap_cons, g]
        show (if acc.length < sizeLine then lcL (lcBody t ft fe (wipeE env vs)) (r.map enc) (acc ++ [enc2 z]) S else .bad) = _
        rw [if_pos (size16' (by omega)), ih (acc ++ [enc2 z]) (by rw [List.length_append]; show acc.length + 1 + _ ≤ _; omega) hr, List.append_assoc]
        rfl
  rw [e l [] (by simpa using hl) hb]
  exact q
theorem fm_some {α β : Type} (f : α → β) : ∀ l : List α, l.filterMap (fun x => some (f x)) = l.map f
  | [] => rfl
  | x :: r => by rw [List.filterMap_cons, fm_some f r]; rfl
/-- every element, no test -/
theorem w_lcM {α β : Type} {enc : α → D} {enc2 : β → D} {l : List α} {t : TGf} {fe : F} {vs : List Nat} (hh : α → β) (hl : l.length ≤ 16777216)
    (hb : ∀ x ∈ l, W (lcBody t ft fe (wipeE env vs) (enc x) S) (fun r => r = .ok (some (enc2 (hh x))) S))
    (q : W (R.ok ((l.map hh).map enc2) S) KL) : W (R.ok (Src.fix (l.map enc)) S) (LC env t ft fe vs KL) :=
  w_lcP (fun x => some (hh x)) hl hb (by rw [fm_some]; exact q)
/-- elements that change the store: by an invariant over what is done -/
def LB (I : List D → Sto → Prop) (acc : List D) : R (Option D) → Prop := fun r => match r with
  | .ok (some z) S => I (acc ++ [z]) S
  | .ok none S => I acc S
  | _ => False
theorem w_lcI {α : Type} {enc : α → D} {l : List α} {t : TGf} {fe : F} {vs : List Nat} (I : List α → List α → List D → Sto → Prop) (hl : l.length ≤ 10000000) (h0 : I [] l [] S)
    (st : ∀ pre x post acc S, pre ++ x :: post = l → acc.length ≤ pre.length → I pre (x :: post) acc S → W (lcBody t ft fe (wipeE env vs) (enc x) S) (LB (I (pre ++ [x]) post) acc))
    (he : ∀ acc S, I l [] acc S → W (R.ok acc S) KL) : W (R.ok (Src.fix (l.map enc)) S) (LC env t ft fe vs KL) := by
  show KL (lcS (.fix (l.map enc)) (lcBody t ft fe (wipeE env vs)) (l.map enc).length 0 [] S)
  rw [lcS_fix (l.map enc) (l.map enc) 0 [] S rfl]
  have e : ∀ (post pre : List α) (acc : List D) (S : Sto), pre ++ post = l → acc.length ≤ pre.length → I pre post acc S → KL (lcL (lcBody t ft fe (wipeE env vs)) (post.map enc) acc S) := by
    intro post
    induction post with
    | nil => intro pre acc S hp _ hI; have hp : pre = l := by simpa using hp
             subst hp; exact he acc S hI
    | cons x r ih =>
      intro pre acc S hp ha hI
      rw [List.map_cons]
      unfold lcL
      have q := st pre x r acc S hp ha hI
      have hlen : pre.length + (r.length + 1) = l.length := by rw [← hp]; simp
      cases g : lcBody t ft fe (wipeE env vs) (enc x) S with
      | bad => rw [g] at q; exact q.elim
      | exc _ _ _ => rw [g] at q; exact q.elim
      | ok o S1 =>
        rw [g] at q
        cases o with
        | none => exact ih (pre ++ [x]) acc S1 (by rw [List.append_assoc]; exact hp) (by rw [List.length_append]; omega) q
        | some z =>
          show KL (if acc.length < sizeLine then lcL (lcBody t ft fe (wipeE env vs)) (r.map enc) (acc ++ [z]) S1 else .bad)
          rw [if_pos (size16' (by omega))]
          exact ih (pre ++ [x]) (acc ++ [z]) S1 (by rw [List.append_assoc]; exact hp) (by rw [List.length_append, List.length_append]; show acc.length + 1 ≤ pre.length + 1; omega) q
  exact e l [] [] S rfl (Nat.le_refl _) h0
def Lt (ft : Ft) (fe : F) (env : Env) (K : R (Option D) → Prop) : Prop := W (ft env S) (NXk (Bk (fun b S1 => if b = true then (fe env S1).noX.bind fun z S2 => .ok (some z) S2 else .ok none S1) K))
theorem w_lcb {t : TGf} {fe : F} {env' : Env} {KO : R (Option D) → Prop} (e : t d env S = some env') (q : W (ft env' S) (NXk (Bk (fun b S1 => if b = true then (fe env' S1).noX.bind fun z S2 => .ok (some z) S2 else .ok none S1) KO))) : W (lcBody t ft fe env d S) KO := by
  show KO (match t d env S with
  | some env' => (ft env' S).noX.bind fun b S1 => if b = true then (fe env' S1).noX.bind fun z S2 => .ok (some z) S2 else .ok none S1
  | none => .bad)
  rw [e]; exact q
theorem w_lcy {fe : F} {env' : Env} {KO : R (Option D) → Prop} (q : W (fe env' S) (NXk (Bk (fun z S2 => .ok (some z) S2) KO))) : W (fYes env' S) (NXk (Bk (fun b S1 => if b = true then (fe env' S1).noX.bind fun z S2 => .ok (some z) S2 else .ok none S1) KO)) := q
theorem w_lct_t {fe : F} {env' : Env} {KO : R (Option D) → Prop} (q : W (fe env' S) (NXk (Bk (fun z S2 => .ok (some z) S2) KO))) : W (R.ok true S) (Bk (fun b S1 => if b = true then (fe env' S1).noX.bind fun z S2 => .ok (some z) S2 else .ok none S1) KO) := q
theorem w_lct_f {fe : F} {env' : Env} {KO : R (Option D) → Prop} (q : W (R.ok (none : Option D) S) KO) : W (R.ok false S) (Bk (fun b S1 => if b = true then (fe env' S1).noX.bind fun z S2 => .ok (some z) S2 else .ok none S1) KO) := q
theorem w_lct_b {fe : F} {env' : Env} {KO : R (Option D) → Prop} (q1 : b = true → W (fe env' S) (NXk (Bk (fun z S2 => .ok (some z) S2) KO))) (q2 : b = false → W (R.ok (none : Option D) S) KO) : W (R.ok b S) (Bk (fun b S1 => if b = true then (fe env' S1).noX.bind fun z S2 => .ok (some z) S2 else .ok none S1) KO) := by
  cases b with
  | true => exact q1 rfl
  | false => exact q2 rfl
theorem w_lct_d {fe : F} {env' : Env} {KO : R (Option D) → Prop} (q1 : p → W (fe env' S) (NXk (Bk (fun z S2 => .ok (some z) S2) KO))) (q2 : ¬ p → W (R.ok (none : Option D) S) KO) : W (R.ok (decide p) S) (Bk (fun b S1 => if b = true then (fe env' S1).noX.bind fun z S2 => .ok (some z) S2 else .ok none S1) KO) :=
  w_lct_b (fun z => q1 (of_decide_eq_true z)) (fun z => q2 (of_decide_eq_false z))
theorem w_lct_n {fe : F} {env' : Env} {KO : R (Option D) → Prop} (q1 : ¬ p → W (fe env' S) (NXk (Bk (fun z S2 => .ok (some z) S2) KO))) (q2 : p → W (R.ok (none : Option D) S) KO) : W (R.ok (!decide p) S) (Bk (fun b S1 => if b = true then (fe env' S1).noX.bind fun z S2 => .ok (some z) S2 else .ok none S1) KO) :=
  w_lct_b (fun z => q1 (of_decide_eq_false (by simpa using z))) (fun z => q2 (of_decide_eq_true (by simpa using z)))
/-! cells -/
def M1 (o : List D → List D → Option (D × List D)) (fs : Fa) (env : Env) (K : R D → Prop) : R D → Prop := fun r => K (r.bind fun d S1 => match locL S1 d with
  | some _ => (fs env S1).bind fun ds S2 => mutAt o d ds S2
  | none => .bad)
def M2 (o : List D → List D → Option (D × List D)) (d : D) (K : R D → Prop) : R (List D) → Prop := fun r => K (r.bind fun ds S2 => mutAt o d ds S2)
theorem w_mut {o : List D → List D → Option (D × List D)} (q : W (f env S) (M1 o fs env K)) : W (fMut o f fs env S) K := q
theorem w_m1 {o : List D → List D → Option (D × List D)} {m : Nat} {as : List D} (hc : S[m]? = some (.lst as)) (q : W (fs env S) (M2 o (.loc m) K)) : W (R.ok (.loc m) S) (M1 o fs env K) := by
  show K (match locL S (.loc m) with
  | some _ => (fs env S).bind fun ds S2 => mutAt o (.loc m) ds S2
  | none => .bad)
  rw [locL_of hc]
  exact q
theorem w_m2 {o : List D → List D → Option (D × List D)} (q : W (mutAt o d ds S) K) : W (R.ok ds S) (M2 o d K) := q
theorem w_append {m : Nat} {as : List D} {S' : Sto} (hc : S[m]? = some (.lst as)) (hl : as.length < 16777216) (hs : S.set m (.lst (as ++ [d])) = S') (q : W (R.ok .non S') K) : W (mutAt gAppend (.loc m) [d] S) K := by
  refine w_eq (mut_append hc hl) ?_
  rw [hs]; exact q
theorem w_appendM {α : Type} {enc : α → D} {l : List α} {x : α} {m : Nat} {S' : Sto} (hc : S[m]? = some (.lst (l.map enc))) (hx : d = enc x) (hl : l.length < 16777216) (hs : S.set m (.lst ((l ++ [x]).map enc)) = S') (q : W (R.ok .non S') K) : W (mutAt gAppend (.loc m) [d] S) K := by
  subst hx
  refine w_append hc (by rw [List.length_map]; exact hl) ?_ q
  rw [← hs, List.map_append]
  rfl
theorem w_locN (q : W (fs env S) (LLk K)) : W (fLoc fs env S) K := q
def BLk (o : Sto → List D → Option (List D)) (K : R D → Prop) : R (List D) → Prop := fun r => K (r.bind fun ds S1 => (R.of (o S1 ds) S1).bind fun es S2 => .ok (.loc S2.length) (S2 ++ [.lst es]))
theorem w_buL {o : Sto → List D → Option (List D)} (q : W (fs env S) (BLk o K)) : W (fBuL o fs env S) K := q
theorem w_buL1 {o : Sto → List D → Option (List D)} {es : List D} (e : o S ds = some es) (q : W (R.ok (.loc S.length) (S ++ [.lst es])) K) : W (R.ok ds S) (BLk o K) := by
  show K ((R.of (o S ds) S).bind fun es S2 => .ok (.loc S2.length) (S2 ++ [.lst es]))
  rw [e]; exact q
theorem w_lenC {m : Nat} {as : List D} (hc : S[m]? = some (.lst as)) (q : W (R.ok (.int (as.length : Nat)) S) K) : W (R.of (gLen S [.loc m]) S) K := w_of (gLen_loc hc) q
theorem get_app (S L : Sto) (k : Nat) : (S ++ L)[S.length + k]? = L[k]? := by
  rw [List.getElem?_append_right (by omega)]
  congr 1
  omega
theorem set_app (S L : Sto) (k : Nat) (c : Cell) : (S ++ L).set (S.length + k) c = S ++ L.set k c := by
  induction S with
  | nil => show List.set L (0 + k) c = L.set k c; rw [Nat.zero_add]
  | cons a S ih =>
    show List.set (a :: (S ++ L)) (S.length + 1 + k) c = a :: (S ++ L.set k c)
    rw [show S.length + 1 + k = (S.length + k) + 1 by omega, List.set_cons_succ, ih]
theorem get_pool (xs : List Int) (T L : Sto) (k : Nat) : (pool xs (T ++ L))[T.length + 1 + k]? = L[k]? := by
  show (Cell.lst (iD xs) :: (T ++ L))[T.length + 1 + k]? = _
  rw [show T.length + 1 + k = (T.length + k) + 1 by omega, List.getElem?_cons_succ, get_app]
theorem set_pool (xs : List Int) (T L : Sto) (k : Nat) (c : Cell) : (pool xs (T ++ L)).set (T.length + 1 + k) c = pool xs (T ++ L.set k c) := by
  show (Cell.lst (iD xs) :: (T ++ L)).set (T.length + 1 + k) c = _
  rw [show T.length + 1 + k = (T.length + k) + 1 by omega, List.set_cons_succ, set_app]
theorem get_app0 (S L : Sto) : (S ++ L)[S.length]? = L[0]? := get_app S L 0
theorem set_app0 (S L : Sto) (c : Cell) : (S ++ L).set S.length c = S ++ L.set 0 c := set_app S L 0 c
theorem get_pool0 (xs : List Int) (T L : Sto) : (pool xs (T ++ L))[T.length + 1]? = L[0]? := get_pool xs T L 0
theorem set_pool0 (xs : List Int) (T L : Sto) (c : Cell) : (pool xs (T ++ L)).set (T.length + 1) c = pool xs (T ++ L.set 0 c) := set_pool xs T L 0 c
/-- a new cell behind the pool and n others -/
theorem w_newP {xs : List Int} {T L : Sto} {c : Cell} {n : Nat} (hn : L.length = n) (q : W (R.ok (.loc (T.length + 1 + n)) (pool xs (T ++ (L ++ [c])))) K) : W (R.ok (.loc (pool xs (T ++ L)).length) (pool xs (T ++ L) ++ [c])) K := by
  have e : (pool xs (T ++ L)).length = T.length + 1 + n := by
    show (T ++ L).length + 1 = _
    rw [List.length_append]; omega
  have e2 : pool xs (T ++ L) ++ [c] = pool xs (T ++ (L ++ [c])) := by
    show Cell.lst (iD xs) :: ((T ++ L) ++ [c]) = _
    rw [List.append_assoc]
  rw [e, e2]; exact q
theorem w_newP0 {xs : List Int} {T : Sto} {c : Cell} (q : W (R.ok (.loc (T.length + 1)) (pool xs (T ++ [c]))) K) : W (R.ok (.loc (pool xs T).length) (pool xs T ++ [c])) K := q
theorem w_newS {L : Sto} {c : Cell} {n : Nat} (hn : L.length = n) (q : W (R.ok (.loc (S.length + n)) (S ++ (L ++ [c]))) K) : W (R.ok (.loc (S ++ L).length) ((S ++ L) ++ [c])) K := by
  rw [List.length_append, hn, List.append_assoc]; exact q
theorem w_nS1 {c0 c : Cell} (q : W (R.ok (.loc (S.length + 1)) (S ++ [c0, c])) K) : W (R.ok (.loc (S ++ [c0]).length) ((S ++ [c0]) ++ [c])) K := w_newS (L := [c0]) rfl q
theorem w_nP1 {xs : List Int} {T : Sto} {c0 c : Cell} (q : W (R.ok (.loc (T.length + 1 + 1)) (pool xs (T ++ [c0, c]))) K) : W (R.ok (.loc (pool xs (T ++ [c0])).length) (pool xs (T ++ [c0]) ++ [c])) K := w_newP (L := [c0]) rfl q
theorem w_nS2 {c0 c1 c : Cell} (q : W (R.ok (.loc (S.length + 2)) (S ++ [c0, c1, c])) K) : W (R.ok (.loc (S ++ [c0, c1]).length) ((S ++ [c0, c1]) ++ [c])) K := w_newS (L := [c0, c1]) rfl q
theorem w_nP2 {xs : List Int} {T : Sto} {c0 c1 c : Cell} (q : W (R.ok (.loc (T.length + 1 + 2)) (pool xs (T ++ [c0, c1, c]))) K) : W (R.ok (.loc (pool xs (T ++ [c0, c1])).length) (pool xs (T ++ [c0, c1]) ++ [c])) K := w_newP (L := [c0, c1]) rfl q
theorem w_nS3 {c0 c1 c2 c : Cell} (q : W (R.ok (.loc (S.length + 3)) (S ++ [c0, c1, c2, c])) K) : W (R.ok (.loc (S ++ [c0, c1, c2]).length) ((S ++ [c0, c1, c2]) ++ [c])) K := w_newS (L := [c0, c1, c2]) rfl q
theorem w_nP3 {xs : List Int} {T : Sto} {c0 c1 c2 c : Cell} (q : W (R.ok (.loc (T.length + 1 + 3)) (pool xs (T ++ [c0, c1, c2, c]))) K) : W (R.ok (.loc (pool xs (T ++ [c0, c1, c2])).length) (pool xs (T ++ [c0, c1, c2]) ++ [c])) K := w_newP (L := [c0, c1, c2]) rfl q
theorem w_nS4 {c0 c1 c2 c3 c : Cell} (q : W (R.ok (.loc (S.length + 4)) (S ++ [c0, c1, c2, c3, c])) K) : W (R.ok (.loc (S ++ [c0, c1, c2, c3]).length) ((S ++ [c0, c1, c2, c3]) ++ [c])) K := w_newS (L := [c0, c1, c2, c3]) rfl q
theorem w_nP4 {xs : List Int} {T : Sto} {c0 c1 c2 c3 c : Cell} (q : W (R.ok (.loc (T.length + 1 + 4)) (pool xs (T ++ [c0, c1, c2, c3, c]))) K) : W (R.ok (.loc (pool xs (T ++ [c0, c1, c2, c3])).length) (pool xs (T ++ [c0, c1, c2, c3]) ++ [c])) K := w_newP (L := [c0, c1, c2, c3]) rfl q
theorem w_nS5 {c0 c1 c2 c3 c4 c : Cell} (q : W (R.ok (.loc (S.length + 5)) (S ++ [c0, c1, c2, c3, c4, c])) K) : W (R.ok (.loc (S ++ [c0, c1, c2, c3, c4]).length) ((S ++ [c0, c1, c2, c3, c4]) ++ [c])) K := w_newS (L := [c0, c1, c2, c3, c4]) rfl q
theorem w_nP5 {xs : List Int} {T : Sto} {c0 c1 c2 c3 c4 c : Cell} (q : W (R.ok (.loc (T.length + 1 + 5)) (pool xs (T ++ [c0, c1, c2, c3, c4, c]))) K) : W (R.ok (.loc (pool xs (T ++ [c0, c1, c2, c3, c4])).length) (pool xs (T ++ [c0, c1, c2, c3, c4]) ++ [c])) K := w_newP (L := [c0, c1, c2, c3, c4]) rfl q
theorem w_nS6 {c0 c1 c2 c3 c4 c5 c : Cell} (q : W (R.ok (.loc (S.length + 6)) (S ++ [c0, c1, c2, c3, c4, c5, c])) K) : W (R.ok (.loc (S ++ [c0, c1, c2, c3, c4, c5]).length) ((S ++ [c0, c1, c2, c3, c4, c5]) ++ [c])) K := w_newS (L := [c0, c1, c2, c3, c4, c5]) rfl q
theorem w_nP6 {xs : List Int} {T : Sto} {c0 c1 c2 c3 c4 c5 c : Cell} (q : W (R.ok (.loc (T.length + 1 + 6)) (pool xs (T ++ [c0, c1, c2, c3, c4, c5, c]))) K) : W (R.ok (.loc (pool xs (T ++ [c0, c1, c2, c3, c4, c5])).length) (pool xs (T ++ [c0, c1, c2, c3, c4, c5]) ++ [c])) K := w_newP (L := [c0, c1, c2, c3, c4, c5]) rfl q
theorem w_nS7 {c0 c1 c2 c3 c4 c5 c6 c : Cell} (q : W (R.ok (.loc (S.length + 7)) (S ++ [c0, c1, c2, c3, c4, c5, c6, c])) K) : W (R.ok (.loc (S ++ [c0, c1, c2, c3, c4, c5, c6]).length) ((S ++ [c0, c1, c2, c3, c4, c5, c6]) ++ [c])) K := w_newS (L := [c0, c1, c2, c3, c4, c5, c6]) rfl q
theorem w_nP7 {xs : List Int} {T : Sto} {c0 c1 c2 c3 c4 c5 c6 c : Cell} (q : W (R.ok (.loc (T.length + 1 + 7)) (pool xs (T ++ [c0, c1, c2, c3, c4, c5, c6, c]))) K) : W (R.ok (.loc (pool xs (T ++ [c0, c1, c2, c3, c4, c5, c6])).length) (pool xs (T ++ [c0, c1, c2, c3, c4, c5, c6]) ++ [c])) K := w_newP (L := [c0, c1, c2, c3, c4, c5, c6]) rfl q

/-! errors -/
section
variable {gs : Fa} {o : Sto → D → D → Option D} {o1 : Sto → D → Option D} {ob : Sto → List D → Option D} {oL : Sto → List D → Option (List D)} {om : List D → List D → Option (D × List D)} {fn : Fn}
theorem w_xCk (q : W (R.exc C xs S) KL) : W (R.exc C xs S) (Ck gs env KL) := q
theorem w_xCk2 (q : W (R.exc C xs S) KL) : W (R.exc C xs S) (Ck2 d KL) := q
theorem w_xTk (q : W (R.exc C xs S) K) : W (R.exc C xs S) (Tk K) := q
theorem w_xLk (q : W (R.exc C xs S) K) : W (R.exc C xs S) (Lk K) := q
theorem w_xB1 (q : W (R.exc C xs S) K) : W (R.exc C xs S) (B1 o fb env K) := q
theorem w_xB2 (q : W (R.exc C xs S) K) : W (R.exc C xs S) (B2 o d K) := q
theorem w_xU1 (q : W (R.exc C xs S) K) : W (R.exc C xs S) (U1 o1 K) := q
theorem w_xBu (q : W (R.exc C xs S) K) : W (R.exc C xs S) (Bu ob K) := q
theorem w_xFk (q : W (R.exc C xs S) K) : W (R.exc C xs S) (Fk fn K) := q
theorem w_xBt (q : W (R.exc C xs S) KB) : W (R.exc C xs S) (Bt KB) := q
theorem w_xNk (q : W (R.exc C xs S) KB) : W (R.exc C xs S) (Nk KB) := q
theorem w_xAk (q : W (R.exc C xs S) KB) : W (R.exc C xs S) (Ak fu env KB) := q
theorem w_xOk (q : W (R.exc C xs S) KB) : W (R.exc C xs S) (Ok fu env KB) := q
theorem w_xEk (q : W (R.exc C xs S) K) : W (R.exc C xs S) (Ek fa fb env K) := q
theorem w_xVk (q : W (R.exc C xs S) K) : W (R.exc C xs S) (Vk K) := q
theorem w_xAVk (q : W (R.exc C xs S) K) : W (R.exc C xs S) (AVk f env K) := q
theorem w_xOVk (q : W (R.exc C xs S) K) : W (R.exc C xs S) (OVk f env K) := q
theorem w_xM2 (q : W (R.exc C xs S) K) : W (R.exc C xs S) (M2 om d K) := q
theorem w_xLLk (q : W (R.exc C xs S) K) : W (R.exc C xs S) (LLk K) := q
theorem w_xBLk (q : W (R.exc C xs S) K) : W (R.exc C xs S) (BLk oL K) := q
theorem w_xIk (q : W (RS.exc env C xs S) KS) : W (R.exc C xs S) (Ik g h env KS) := q
end
/-! own objects -/
theorem w_fld0 {cls : List Addr} {n : Str} (q : W (f env S) (Bk (fun d S1 => R.of (gFld cls n S1 d) S1) K)) : W (fFld cls n f env S) K := q
theorem w_fldO {cls : List Addr} {n : Str} {C : Addr} {gs : List (Str × D)} (hc : decide (C ∈ cls) = true) (hl : gs.lookup n = some d) (q : W (R.ok d S) K) : W (R.of (gFld cls n S (.obj C gs)) S) K := by
  refine w_of ?_ q
  show (if C ∈ cls then gs.lookup n else none) = some d
  rw [if_pos (of_decide_eq_true hc), hl]
theorem w_prop0 {C0 : Addr} {fn : Fn} (q : W (f env S) (Bk (fun d S1 => match insOf S1 d with
  | some (C, _) => if C = C0 then (fn [d] S1).noX else .bad
  | none => .bad) K)) : W (fProp C0 fn f env S) K := q
theorem w_propO {C0 : Addr} {fn : Fn} {gs : List (Str × D)} (q : W (fn [.obj C0 gs] S) (NXk K)) : W (R.ok (.obj C0 gs) S) (Bk (fun d S1 => match insOf S1 d with
  | some (C, _) => if C = C0 then (fn [d] S1).noX else .bad
  | none => .bad) K) := by
  show K (if C0 = C0 then (fn [.obj C0 gs] S).noX else .bad)
  rw [if_pos rfl]; exact q
/-! a raise -/
theorem w_raise {C : Addr} {mk : List D → Option (List (Str × D))} (q : W (fs env S) (BkS env (fun ds S1 => match mk ds with
  | some gs => .exc env C gs S1
  | none => .bad) KS)) : W (sRaise C mk fs env S) KS := q
theorem w_raise2 {C : Addr} {a b : Str} {x y : D} (q : W (RS.exc env C [(b, y), (a, x)] S) KS) : W (R.ok [x, y] S) (BkS env (fun ds S1 => match mk2 a b ds with
  | some gs => .exc env C gs S1
  | none => .bad) KS) := q
end
section
variable {S : Sto} {d : D} {K : R D → Prop} {KS : RS → Prop} {r : Env}
theorem w_v0  (q : W (R.ok d S) K) : W (fVar 0 (some d :: r) S) K := q
theorem w_g0 { x : Option D} (q : W (RS.fl (.nx (some d :: r)) S) KS) : W (R.ok d S) (Gk (gN 0) (x :: r) KS) := q
theorem w_tx0 { x : Option D} {h : SF} {C : Addr} {xs : List (Str × D)} (q : W (h (some (.exn C xs) :: r) S) (Uk 0 KS)) : W (RS.exc (x :: r) C xs S) (Xk [(C, true)] 0 h KS) := w_tryx q
theorem w_t0 { x : Option D} {b : SF} (q : W (b (some d :: r) S) KS) : W ((fun d env S => match gN 0 d env S with
  | some env' => b env' S
  | none => RS.bad) d (x :: r) S) KS := q
theorem w_v1 {a0 : Option D} (q : W (R.ok d S) K) : W (fVar 1 (a0 :: some d :: r) S) K := q
theorem w_g1 {a0 x : Option D} (q : W (RS.fl (.nx (a0 :: some d :: r)) S) KS) : W (R.ok d S) (Gk (gN 1) (a0 :: x :: r) KS) := q
theorem w_tx1 {a0 x : Option D} {h : SF} {C : Addr} {xs : List (Str × D)} (q : W (h (a0 :: some (.exn C xs) :: r) S) (Uk 1 KS)) : W (RS.exc (a0 :: x :: r) C xs S) (Xk [(C, true)] 1 h KS) := w_tryx q
theorem w_t1 {a0 x : Option D} {b : SF} (q : W (b (a0 :: some d :: r) S) KS) : W ((fun d env S => match gN 1 d env S with
  | some env' => b env' S
  | none => RS.bad) d (a0 :: x :: r) S) KS := q
theorem w_v2 {a0 a1 : Option D} (q : W (R.ok d S) K) : W (fVar 2 (a0 :: a1 :: some d :: r) S) K := q
theorem w_g2 {a0 a1 x : Option D} (q : W (RS.fl (.nx (a0 :: a1 :: some d :: r)) S) KS) : W (R.ok d S) (Gk (gN 2) (a0 :: a1 :: x :: r) KS) := q
theorem w_tx2 {a0 a1 x : Option D} {h : SF} {C : Addr} {xs : List (Str × D)} (q : W (h (a0 :: a1 :: some (.exn C xs) :: r) S) (Uk 2 KS)) : W (RS.exc (a0 :: a1 :: x :: r) C xs S) (Xk [(C, true)] 2 h KS) := w_tryx q
theorem w_t2 {a0 a1 x : Option D} {b : SF} (q : W (b (a0 :: a1 :: some d :: r) S) KS) : W ((fun d env S => match gN 2 d env S with
  | some env' => b env' S
  | none => RS.bad) d (a0 :: a1 :: x :: r) S) KS := q
theorem w_v3 {a0 a1 a2 : Option D} (q : W (R.ok d S) K) : W (fVar 3 (a0 :: a1 :: a2 :: some d :: r) S) K := q
theorem w_g3 {a0 a1 a2 x : Option D} (q : W (RS.fl (.nx (a0 :: a1 :: a2 :: some d :: r)) S) KS) : W (R.ok d S) (Gk (gN 3) (a0 :: a1 :: a2 :: x :: r) KS) := q
theorem w_tx3 {a0 a1 a2 x : Option D} {h : SF} {C : Addr} {xs : List (Str × D)} (q : W (h (a0 :: a1 :: a2 :: some (.exn C xs) :: r) S) (Uk 3 KS)) : W (RS.exc (a0 :: a1 :: a2 :: x :: r) C xs S) (Xk [(C, true)] 3 h KS) := w_tryx q
theorem w_t3 {a0 a1 a2 x : Option D} {b : SF} (q : W (b (a0 :: a1 :: a2 :: some d :: r) S) KS) : W ((fun d env S => match gN 3 d env S with
  | some env' => b env' S
  | none => RS.bad) d (a0 :: a1 :: a2 :: x :: r) S) KS := q
theorem w_v4 {a0 a1 a2 a3 : Option D} (q : W (R.ok d S) K) : W (fVar 4 (a0 :: a1 :: a2 :: a3 :: some d :: r) S) K := q
theorem w_g4 {a0 a1 a2 a3 x : Option D} (q : W (RS.fl (.nx (a0 :: a1 :: a2 :: a3 :: some d :: r)) S) KS) : W (R.ok d S) (Gk (gN 4) (a0 :: a1 :: a2 :: a3 :: x :: r) KS) := q
theorem w_tx4 {a0 a1 a2 a3 x : Option D} {h : SF} {C : Addr} {xs : List (Str × D)} (q : W (h (a0 :: a1 :: a2 :: a3 :: some (.exn C xs) :: r) S) (Uk 4 KS)) : W (RS.exc (a0 :: a1 :: a2 :: a3 :: x :: r) C xs S) (Xk [(C, true)] 4 h KS) := w_tryx q
theorem w_t4 {a0 a1 a2 a3 x : Option D} {b : SF} (q : W (b (a0 :: a1 :: a2 :: a3 :: some d :: r) S) KS) : W ((fun d env S => match gN 4 d env S with
  | some env' => b env' S
  | none => RS.bad) d (a0 :: a1 :: a2 :: a3 :: x :: r) S) KS := q
theorem w_v5 {a0 a1 a2 a3 a4 : Option D} (q : W (R.ok d S) K) : W (fVar 5 (a0 :: a1 :: a2 :: a3 :: a4 :: some d :: r) S) K := q
theorem w_g5 {a0 a1 a2 a3 a4 x : Option D} (q : W (RS.fl (.nx (a0 :: a1 :: a2 :: a3 :: a4 :: some d :: r)) S) KS) : W (R.ok d S) (Gk (gN 5) (a0 :: a1 :: a2 :: a3 :: a4 :: x :: r) KS) := q
theorem w_tx5 {a0 a1 a2 a3 a4 x : Option D} {h : SF} {C : Addr} {xs : List (Str × D)} (q : W (h (a0 :: a1 :: a2 :: a3 :: a4 :: some (.exn C xs) :: r) S) (Uk 5 KS)) : W (RS.exc (a0 :: a1 :: a2 :: a3 :: a4 :: x :: r) C xs S) (Xk [(C, true)] 5 h KS) := w_tryx q
theorem w_t5 {a0 a1 a2 a3 a4 x : Option D} {b : SF} (q : W (b (a0 :: a1 :: a2 :: a3 :: a4 :: some d :: r) S) KS) : W ((fun d env S => match gN 5 d env S with
  | some env' => b env' S
  | none => RS.bad) d (a0 :: a1 :: a2 :: a3 :: a4 :: x :: r) S) KS := q
theorem w_v6 {a0 a1 a2 a3 a4 a5 : Option D} (q : W (R.ok d S) K) : W (fVar 6 (a0 :: a1 :: a2 :: a3 :: a4 :: a5 :: some d :: r) S) K := q
theorem w_g6 {a0 a1 a2 a3 a4 a5 x : Option D} (q : W (RS.fl (.nx (a0 :: a1 :: a2 :: a3 :: a4 :: a5 :: some d :: r)) S) KS) : W (R.ok d S) (Gk (gN 6) (a0 :: a1 :: a2 :: a3 :: a4 :: a5 :: x :: r) KS) := q
theorem w_tx6 {a0 a1 a2 a3 a4 a5 x : Option D} {h : SF} {C : Addr} {xs : List (Str × D)} (q : W (h (a0 :: a1 :: a2 :: a3 :: a4 :: a5 :: some (.exn C xs) :: r) S) (Uk 6 KS)) : W (RS.exc (a0 :: a1 :: a2 :: a3 :: a4 :: a5 :: x :: r) C xs S) (Xk [(C, true)] 6 h KS) := w_tryx q
theorem w_t6 {a0 a1 a2 a3 a4 a5 x : Option D} {b : SF} (q : W (b (a0 :: a1 :: a2 :: a3 :: a4 :: a5 :: some d :: r) S) KS) : W ((fun d env S => match gN 6 d env S with
  | some env' => b env' S
  | none => RS.bad) d (a0 :: a1 :: a2 :: a3 :: a4 :: a5 :: x :: r) S) KS := q
theorem w_v7 {a0 a1 a2 a3 a4 a5 a6 : Option D} (q : W (R.ok d S) K) : W (fVar 7 (a0 :: a1 :: a2 :: a3 :: a4 :: a5 :: a6 :: some d :: r) S) K := q
theorem w_g7 {a0 a1 a2 a3 a4 a5 a6 x : Option D} (q : W (RS.fl (.nx (a0 :: a1 :: a2 :: a3 :: a4 :: a5 :: a6 :: some d :: r)) S) KS) : W (R.ok d S) (Gk (gN 7) (a0 :: a1 :: a2 :: a3 :: a4 :: a5 :: a6 :: x :: r) KS) := q
theorem w_tx7 {a0 a1 a2 a3 a4 a5 a6 x : Option D} {h : SF} {C : Addr} {xs : List (Str × D)} (q : W (h (a0 :: a1 :: a2 :: a3 :: a4 :: a5 :: a6 :: some (.exn C xs) :: r) S) (Uk 7 KS)) : W (RS.exc (a0 :: a1 :: a2 :: a3 :: a4 :: a5 :: a6 :: x :: r) C xs S) (Xk [(C, true)] 7 h KS) := w_tryx q
theorem w_t7 {a0 a1 a2 a3 a4 a5 a6 x : Option D} {b : SF} (q : W (b (a0 :: a1 :: a2 :: a3 :: a4 :: a5 :: a6 :: some d :: r) S) KS) : W ((fun d env S => match gN 7 d env S with
  | some env' => b env' S
  | none => RS.bad) d (a0 :: a1 :: a2 :: a3 :: a4 :: a5 :: a6 :: x :: r) S) KS := q
theorem w_v8 {a0 a1 a2 a3 a4 a5 a6 a7 : Option D} (q : W (R.ok d S) K) : W (fVar 8 (a0 :: a1 :: a2 :: a3 :: a4 :: a5 :: a6 :: a7 :: some d :: r) S) K := q
theorem w_g8 {a0 a1 a2 a3 a4 a5 a6 a7 x : Option D} (q : W (RS.fl (.nx (a0 :: a1 :: a2 :: a3 :: a4 :: a5 :: a6 :: a7 :: some d :: r)) S) KS) : W (R.ok d S) (Gk (gN 8) (a0 :: a1 :: a2 :: a3 :: a4 :: a5 :: a6 :: a7 :: x :: r) KS) := q
theorem w_tx8 {a0 a1 a2 a3 a4 a5 a6 a7 x : Option D} {h : SF} {C : Addr} {xs : List (Str × D)} (q : W (h (a0 :: a1 :: a2 :: a3 :: a4 :: a5 :: a6 :: a7 :: some (.exn C xs) :: r) S) (Uk 8 KS)) : W (RS.exc (a0 :: a1 :: a2 :: a3 :: a4 :: a5 :: a6 :: a7 :: x :: r) C xs S) (Xk [(C, true)] 8 h KS) := w_tryx q
theorem w_t8 {a0 a1 a2 a3 a4 a5 a6 a7 x : Option D} {b : SF} (q : W (b (a0 :: a1 :: a2 :: a3 :: a4 :: a5 :: a6 :: a7 :: some d :: r) S) KS) : W ((fun d env S => match gN 8 d env S with
  | some env' => b env' S
  | none => RS.bad) d (a0 :: a1 :: a2 :: a3 :: a4 :: a5 :: a6 :: a7 :: x :: r) S) KS := q
theorem w_v9 {a0 a1 a2 a3 a4 a5 a6 a7 a8 : Option D} (q : W (R.ok d S) K) : W (fVar 9 (a0 :: a1 :: a2 :: a3 :: a4 :: a5 :: a6 :: a7 :: a8 :: some d :: r) S) K := q
theorem w_g9 {a0 a1 a2 a3 a4 a5 a6 a7 a8 x : Option D} (q : W (RS.fl (.nx (a0 :: a1 :: a2 :: a3 :: a4 :: a5 :: a6 :: a7 :: a8 :: some d :: r)) S) KS) : W (R.ok d S) (Gk (gN 9) (a0 :: a1 :: a2 :: a3 :: a4 :: a5 :: a6 :: a7 :: a8 :: x :: r) KS) := q
theorem w_tx9 {a0 a1 a2 a3 a4 a5 a6 a7 a8 x : Option D} {h : SF} {C : Addr} {xs : List (Str × D)} (q : W (h (a0 :: a1 :: a2 :: a3 :: a4 :: a5 :: a6 :: a7 :: a8 :: some (.exn C xs) :: r) S) (Uk 9 KS)) : W (RS.exc (a0 :: a1 :: a2 :: a3 :: a4 :: a5 :: a6 :: a7 :: a8 :: x :: r) C xs S) (Xk [(C, true)] 9 h KS) := w_tryx q
theorem w_t9 {a0 a1 a2 a3 a4 a5 a6 a7 a8 x : Option D} {b : SF} (q : W (b (a0 :: a1 :: a2 :: a3 :: a4 :: a5 :: a6 :: a7 :: a8 :: some d :: r) S) KS) : W ((fun d env S => match gN 9 d env S with
  | some env' => b env' S
  | none => RS.bad) d (a0 :: a1 :: a2 :: a3 :: a4 :: a5 :: a6 :: a7 :: a8 :: x :: r) S) KS := q
theorem w_v10 {a0 a1 a2 a3 a4 a5 a6 a7 a8 a9 : Option D} (q : W (R.ok d S) K) : W (fVar 10 (a0 :: a1 :: a2 :: a3 :: a4 :: a5 :: a6 :: a7 :: a8 :: a9 :: some d :: r) S) K := q
theorem w_g10 {a0 a1 a2 a3 a4 a5 a6 a7 a8 a9 x : Option D} (q : W (RS.fl (.nx (a0 :: a1 :: a2 :: a3 :: a4 :: a5 :: a6 :: a7 :: a8 :: a9 :: some d :: r)) S) KS) : W (R.ok d S) (Gk (gN 10) (a0 :: a1 :: a2 :: a3 :: a4 :: a5 :: a6 :: a7 :: a8 :: a9 :: x :: r) KS) := q
theorem w_tx10 {a0 a1 a2 a3 a4 a5 a6 a7 a8 a9 x : Option D} {h : SF} {C : Addr} {xs : List (Str × D)} (q : W (h (a0 :: a1 :: a2 :: a3 :: a4 :: a5 :: a6 :: a7 :: a8 :: a9 :: some (.exn C xs) :: r) S) (Uk 10 KS)) : W (RS.exc (a0 :: a1 :: a2 :: a3 :: a4 :: a5 :: a6 :: a7 :: a8 :: a9 :: x :: r) C xs S) (Xk [(C, true)] 10 h KS) := w_tryx q
theorem w_t10 {a0 a1 a2 a3 a4 a5 a6 a7 a8 a9 x : Option D} {b : SF} (q : W (b (a0 :: a1 :: a2 :: a3 :: a4 :: a5 :: a6 :: a7 :: a8 :: a9 :: some d :: r) S) KS) : W ((fun d env S => match gN 10 d env S with
  | some env' => b env' S
  | none => RS.bad) d (a0 :: a1 :: a2 :: a3 :: a4 :: a5 :: a6 :: a7 :: a8 :: a9 :: x :: r) S) KS := q
theorem w_v11 {a0 a1 a2 a3 a4 a5 a6 a7 a8 a9 a10 : Option D} (q : W (R.ok d S) K) : W (fVar 11 (a0 :: a1 :: a2 :: a3 :: a4 :: a5 :: a6 :: a7 :: a8 :: a9 :: a10 :: some d :: r) S) K := q
theorem w_g11 {a0 a1 a2 a3 a4 a5 a6 a7 a8 a9 a10 x : Option D} (q : W (RS.fl (.nx (a0 :: a1 :: a2 :: a3 :: a4 :: a5 :: a6 :: a7 :: a8 :: a9 :: a10 :: some d :: r)) S) KS) : W (R.ok d S) (Gk (gN 11) (a0 :: a1 :: a2 :: a3 :: a4 :: a5 :: a6 :: a7 :: a8 :: a9 :: a10 :: x :: r) KS) := q
theorem w_tx11 {a0 a1 a2 a3 a4 a5 a6 a7 a8 a9 a10 x : Option D} {h : SF} {C : Addr} {xs : List (Str × D)} (q : W (h (a0 :: a1 :: a2 :: a3 :: a4 :: a5 :: a6 :: a7 :: a8 :: a9 :: a10 :: some (.exn C xs) :: r) S) (Uk 11 KS)) : W (RS.exc (a0 :: a1 :: a2 :: a3 :: a4 :: a5 :: a6 :: a7 :: a8 :: a9 :: a10 :: x :: r) C xs S) (Xk [(C, true)] 11 h KS) := w_tryx q
theorem w_t11 {a0 a1 a2 a3 a4 a5 a6 a7 a8 a9 a10 x : Option D} {b : SF} (q : W (b (a0 :: a1 :: a2 :: a3 :: a4 :: a5 :: a6 :: a7 :: a8 :: a9 :: a10 :: some d :: r) S) KS) : W ((fun d env S => match gN 11 d env S with
  | some env' => b env' S
  | none => RS.bad) d (a0 :: a1 :: a2 :: a3 :: a4 :: a5 :: a6 :: a7 :: a8 :: a9 :: a10 :: x :: r) S) KS := q
theorem w_v12 {a0 a1 a2 a3 a4 a5 a6 a7 a8 a9 a10 a11 : Option D} (q : W (R.ok d S) K) : W (fVar 12 (a0 :: a1 :: a2 :: a3 :: a4 :: a5 :: a6 :: a7 :: a8 :: a9 :: a10 :: a11 :: some d :: r) S) K := q
theorem w_g12 {a0 a1 a2 a3 a4 a5 a6 a7 a8 a9 a10 a11 x : Option D} (q : W (RS.fl (.nx (a0 :: a1 :: a2 :: a3 :: a4 :: a5 :: a6 :: a7 :: a8 :: a9 :: a10 :: a11 :: some d :: r)) S) KS) : W (R.ok d S) (Gk (gN 12) (a0 :: a1 :: a2 :: a3 :: a4 :: a5 :: a6 :: a7 :: a8 :: a9 :: a10 :: a11 :: x :: r) KS) := q
theorem w_tx12 {a0 a1 a2 a3 a4 a5 a6 a7 a8 a9 a10 a11 x : Option D} {h : SF} {C : Addr} {xs : List (Str × D)} (q : W (h (a0 :: a1 :: a2 :: a3 :: a4 :: a5 :: a6 :: a7 :: a8 :: a9 :: a10 :: a11 :: some (.exn C xs) :: r) S) (Uk 12 KS)) : W (RS.exc (a0 :: a1 :: a2 :: a3 :: a4 :: a5 :: a6 :: a7 :: a8 :: a9 :: a10 :: a11 :: x :: r) C xs S) (Xk [(C, true)] 12 h KS) := w_tryx q
theorem w_t12 {a0 a1 a2 a3 a4 a5 a6 a7 a8 a9 a10 a11 x : Option D} {b : SF} (q : W (b (a0 :: a1 :: a2 :: a3 :: a4 :: a5 :: a6 :: a7 :: a8 :: a9 :: a10 :: a11 :: some d :: r) S) KS) : W ((fun d env S => match gN 12 d env S with
  | some env' => b env' S
  | none => RS.bad) d (a0 :: a1 :: a2 :: a3 :: a4 :: a5 :: a6 :: a7 :: a8 :: a9 :: a10 :: a11 :: x :: r) S) KS := q
theorem w_v13 {a0 a1 a2 a3 a4 a5 a6 a7 a8 a9 a10 a11 a12 : Option D} (q : W (R.ok d S) K) : W (fVar 13 (a0 :: a1 :: a2 :: a3 :: a4 :: a5 :: a6 :: a7 :: a8 :: a9 :: a10 :: a11 :: a12 :: some d :: r) S) K := q
theorem w_g13 {a0 a1 a2 a3 a4 a5 a6 a7 a8 a9 a10 a11 a12 x : Option D} (q : W (RS.fl (.nx (a0 :: a1 :: a2 :: a3 :: a4 :: a5 :: a6 :: a7 :: a8 :: a9 :: a10 :: a11 :: a12 :: some d :: r)) S) KS) : W (R.ok d S) (Gk (gN 13) (a0 :: a1 :: a2 :: a3 :: a4 :: a5 :: a6 :: a7 :: a8 :: a9 :: a10 :: a11 :: a12 :: x :: r) KS) := q
theorem w_tx13 {a0 a1 a2 a3 a4 a5 a6 a7 a8 a9 a10 a11 a12 x : Option D} {h : SF} {C : Addr} {xs : List (Str × D)} (q : W (h (a0 :: a1 :: a2 :: a3 :: a4 :: a5 :: a6 :: a7 :: a8 :: a9 :: a10 :: a11 :: a12 :: some (.exn C xs) :: r) S) (Uk 13 KS)) : W (RS.exc (a0 :: a1 :: a2 :: a3 :: a4 :: a5 :: a6 :: a7 :: a8 :: a9 :: a10 :: a11 :: a12 :: x :: r) C xs S) (Xk [(C, true)] 13 h KS) := w_tryx q
theorem w_t13 {a0 a1 a2 a3 a4 a5 a6 a7 a8 a9 a10 a11 a12 x : Option D} {b : SF} (q : W (b (a0 :: a1 :: a2 :: a3 :: a4 :: a5 :: a6 :: a7 :: a8 :: a9 :: a10 :: a11 :: a12 :: some d :: r) S) KS) : W ((fun d env S => match gN 13 d env S with
  | some env' => b env' S
  | none => RS.bad) d (a0 :: a1 :: a2 :: a3 :: a4 :: a5 :: a6 :: a7 :: a8 :: a9 :: a10 :: a11 :: a12 :: x :: r) S) KS := q
theorem w_v14 {a0 a1 a2 a3 a4 a5 a6 a7 a8 a9 a10 a11 a12 a13 : Option D} (q : W (R.ok d S) K) : W (fVar 14 (a0 :: a1 :: a2 :: a3 :: a4 :: a5 :: a6 :: a7 :: a8 :: a9 :: a10 :: a11 :: a12 :: a13 :: some d :: r) S) K := q
theorem w_g14 {a0 a1 a2 a3 a4 a5 a6 a7 a8 a9 a10 a11 a12 a13 x : Option D} (q : W (RS.fl (.nx (a0 :: a1 :: a2 :: a3 :: a4 :: a5 :: a6 :: a7 :: a8 :: a9 :: a10 :: a11 :: a12 :: a13 :: some d :: r)) S) KS) : W (R.ok d S) (Gk (gN 14) (a0 :: a1 :: a2 :: a3 :: a4 :: a5 :: a6 :: a7 :: a8 :: a9 :: a10 :: a11 :: a12 :: a13 :: x :: r) KS) := q
theorem w_tx14 {a0 a1 a2 a3 a4 a5 a6 a7 a8 a9 a10 a11 a12 a13 x : Option D} {h : SF} {C : Addr} {xs : List (Str × D)} (q : W (h (a0 :: a1 :: a2 :: a3 :: a4 :: a5 :: a6 :: a7 :: a8 :: a9 :: a10 :: a11 :: a12 :: a13 :: some (.exn C xs) :: r) S) (Uk 14 KS)) : W (RS.exc (a0 :: a1 :: a2 :: a3 :: a4 :: a5 :: a6 :: a7 :: a8 :: a9 :: a10 :: a11 :: a12 :: a13 :: x :: r) C xs S) (Xk [(C, true)] 14 h KS) := w_tryx q
theorem w_t14 {a0 a1 a2 a3 a4 a5 a6 a7 a8 a9 a10 a11 a12 a13 x : Option D} {b : SF} (q : W (b (a0 :: a1 :: a2 :: a3 :: a4 :: a5 :: a6 :: a7 :: a8 :: a9 :: a10 :: a11 :: a12 :: a13 :: some d :: r) S) KS) : W ((fun d env S => match gN 14 d env S with
  | some env' => b env' S
  | none => RS.bad) d (a0 :: a1 :: a2 :: a3 :: a4 :: a5 :: a6 :: a7 :: a8 :: a9 :: a10 :: a11 :: a12 :: a13 :: x :: r) S) KS := q
theorem w_v15 {a0 a1 a2 a3 a4 a5 a6 a7 a8 a9 a10 a11 a12 a13 a14 : Option D} (q : W (R.ok d S) K) : W (fVar 15 (a0 :: a1 :: a2 :: a3 :: a4 :: a5 :: a6 :: a7 :: a8 :: a9 :: a10 :: a11 :: a12 :: a13 :: a14 :: some d :: r) S) K := q
theorem w_g15 {a0 a1 a2 a3 a4 a5 a6 a7 a8 a9 a10 a11 a12 a13 a14 x : Option D} (q : W (RS.fl (.nx (a0 :: a1 :: a2 :: a3 :: a4 :: a5 :: a6 :: a7 :: a8 :: a9 :: a10 :: a11 :: a12 :: a13 :: a14 :: some d :: r)) S) KS) : W (R.ok d S) (Gk (gN 15) (a0 :: a1 :: a2 :: a3 :: a4 :: a5 :: a6 :: a7 :: a8 :: a9 :: a10 :: a11 :: a12 :: a13 :: a14 :: x :: r) KS) := q
theorem w_tx15 {a0 a1 a2 a3 a4 a5 a6 a7 a8 a9 a10 a11 a12 a13 a14 x : Option D} {h : SF} {C : Addr} {xs : List (Str × D)} (q : W (h (a0 :: a1 :: a2 :: a3 :: a4 :: a5 :: a6 :: a7 :: a8 :: a9 :: a10 :: a11 :: a12 :: a13 :: a14 :: some (.exn C xs) :: r) S) (Uk 15 KS)) : W (RS.exc (a0 :: a1 :: a2 :: a3 :: a4 :: a5 :: a6 :: a7 :: a8 :: a9 :: a10 :: a11 :: a12 :: a13 :: a14 :: x :: r) C xs S) (Xk [(C, true)] 15 h KS) := w_tryx q
theorem w_t15 {a0 a1 a2 a3 a4 a5 a6 a7 a8 a9 a10 a11 a12 a13 a14 x : Option D} {b : SF} (q : W (b (a0 :: a1 :: a2 :: a3 :: a4 :: a5 :: a6 :: a7 :: a8 :: a9 :: a10 :: a11 :: a12 :: a13 :: a14 :: some d :: r) S) KS) : W ((fun d env S => match gN 15 d env S with
  | some env' => b env' S
  | none => RS.bad) d (a0 :: a1 :: a2 :: a3 :: a4 :: a5 :: a6 :: a7 :: a8 :: a9 :: a10 :: a11 :: a12 :: a13 :: a14 :: x :: r) S) KS := q
theorem w_v16 {a0 a1 a2 a3 a4 a5 a6 a7 a8 a9 a10 a11 a12 a13 a14 a15 : Option D} (q : W (R.ok d S) K) : W (fVar 16 (a0 :: a1 :: a2 :: a3 :: a4 :: a5 :: a6 :: a7 :: a8 :: a9 :: a10 :: a11 :: a12 :: a13 :: a14 :: a15 :: some d :: r) S) K := q
theorem w_g16 {a0 a1 a2 a3 a4 a5 a6 a7 a8 a9 a10 a11 a12 a13 a14 a15 x : Option D} (q : W (RS.fl (.nx (a0 :: a1 :: a2 :: a3 :: a4 :: a5 :: a6 :: a7 :: a8 :: a9 :: a10 :: a11 :: a12 :: a13 :: a14 :: a15 :: some d :: r)) S) KS) : W (R.ok d S) (Gk (gN 16) (a0 :: a1 :: a2 :: a3 :: a4 :: a5 :: a6 :: a7 :: a8 :: a9 :: a10 :: a11 :: a12 :: a13 :: a14 :: a15 :: x :: r) KS) := q
theorem w_tx16 {a0 a1 a2 a3 a4 a5 a6 a7 a8 a9 a10 a11 a12 a13 a14 a15 x : Option D} {h : SF} {C : Addr} {xs : List (Str × D)} (q : W (h (a0 :: a1 :: a2 :: a3 :: a4 :: a5 :: a6 :: a7 :: a8 :: a9 :: a10 :: a11 :: a12 :: a13 :: a14 :: a15 :: some (.exn C xs) :: r) S) (Uk 16 KS)) : W (RS.exc (a0 :: a1 :: a2 :: a3 :: a4 :: a5 :: a6 :: a7 :: a8 :: a9 :: a10 :: a11 :: a12 :: a13 :: a14 :: a15 :: x :: r) C xs S) (Xk [(C, true)] 16 h KS) := w_tryx q
theorem w_t16 {a0 a1 a2 a3 a4 a5 a6 a7 a8 a9 a10 a11 a12 a13 a14 a15 x : Option D} {b : SF} (q : W (b (a0 :: a1 :: a2 :: a3 :: a4 :: a5 :: a6 :: a7 :: a8 :: a9 :: a10 :: a11 :: a12 :: a13 :: a14 :: a15 :: some d :: r) S) KS) : W ((fun d env S => match gN 16 d env S with
  | some env' => b env' S
  | none => RS.bad) d (a0 :: a1 :: a2 :: a3 :: a4 :: a5 :: a6 :: a7 :: a8 :: a9 :: a10 :: a11 :: a12 :: a13 :: a14 :: a15 :: x :: r) S) KS := q
theorem w_v17 {a0 a1 a2 a3 a4 a5 a6 a7 a8 a9 a10 a11 a12 a13 a14 a15 a16 : Option D} (q : W (R.ok d S) K) : W (fVar 17 (a0 :: a1 :: a2 :: a3 :: a4 :: a5 :: a6 :: a7 :: a8 :: a9 :: a10 :: a11 :: a12 :: a13 :: a14 :: a15 :: a16 :: some d :: r) S) K := q
theorem w_g17 {a0 a1 a2 a3 a4 a5 a6 a7 a8 a9 a10 a11 a12 a13 a14 a15 a16 x : Option D} (q : W (RS.fl (.nx (a0 :: a1 :: a2 :: a3 :: a4 :: a5 :: a6 :: a7 :: a8 :: a9 :: a10 :: a11 :: a12 :: a13 :: a14 :: a15 :: a16 :: some d :: r)) S) KS) : W (R.ok d S) (Gk (gN 17) (a0 :: a1 :: a2 :: a3 :: a4 :: a5 :: a6 :: a7 :: a8 :: a9 :: a10 :: a11 :: a12 :: a13 :: a14 :: a15 :: a16 :: x :: r) KS) := q
theorem w_tx17 {a0 a1 a2 a3 a4 a5 a6 a7 a8 a9 a10 a11 a12 a13 a14 a15 a16 x : Option D} {h : SF} {C : Addr} {xs : List (Str × D)} (q : W (h (a0 :: a1 :: a2 :: a3 :: a4 :: a5 :: a6 :: a7 :: a8 :: a9 :: a10 :: a11 :: a12 :: a13 :: a14 :: a15 :: a16 :: some (.exn C xs) :: r) S) (Uk 17 KS)) : W (RS.exc (a0 :: a1 :: a2 :: a3 :: a4 :: a5 :: a6 :: a7 :: a8 :: a9 :: a10 :: a11 :: a12 :: a13 :: a14 :: a15 :: a16 :: x :: r) C xs S) (Xk [(C, true)] 17 h KS) := w_tryx q
theorem w_t17 {a0 a1 a2 a3 a4 a5 a6 a7 a8 a9 a10 a11 a12 a13 a14 a15 a16 x : Option D} {b : SF} (q : W (b (a0 :: a1 :: a2 :: a3 :: a4 :: a5 :: a6 :: a7 :: a8 :: a9 :: a10 :: a11 :: a12 :: a13 :: a14 :: a15 :: a16 :: some d :: r) S) KS) : W ((fun d env S => match gN 17 d env S with
  | some env' => b env' S
  | none => RS.bad) d (a0 :: a1 :: a2 :: a3 :: a4 :: a5 :: a6 :: a7 :: a8 :: a9 :: a10 :: a11 :: a12 :: a13 :: a14 :: a15 :: a16 :: x :: r) S) KS := q
theorem w_v18 {a0 a1 a2 a3 a4 a5 a6 a7 a8 a9 a10 a11 a12 a13 a14 a15 a16 a17 : Option D} (q : W (R.ok d S) K) : W (fVar 18 (a0 :: a1 :: a2 :: a3 :: a4 :: a5 :: a6 :: a7 :: a8 :: a9 :: a10 :: a11 :: a12 :: a13 :: a14 :: a15 :: a16 :: a17 :: some d :: r) S) K := q
theorem w_g18 {a0 a1 a2 a3 a4 a5 a6 a7 a8 a9 a10 a11 a12 a13 a14 a15 a16 a17 x : Option D} (q : W (RS.fl (.nx (a0 :: a1 :: a2 :: a3 :: a4 :: a5 :: a6 :: a7 :: a8 :: a9 :: a10 :: a11 :: a12 :: a13 :: a14 :: a15 :: a16 :: a17 :: some d :: r)) S) KS) : W (R.ok d S) (Gk (gN 18) (a0 :: a1 :: a2 :: a3 :: a4 :: a5 :: a6 :: a7 :: a8 :: a9 :: a10 :: a11 :: a12 :: a13 :: a14 :: a15 :: a16 :: a17 :: x :: r) KS) := q
theorem w_tx18 {a0 a1 a2 a3 a4 a5 a6 a7 a8 a9 a10 a11 a12 a13 a14 a15 a16 a17 x : Option D} {h : SF} {C : Addr} {xs : List (Str × D)} (q : W (h (a0 :: a1 :: a2 :: a3 :: a4 :: a5 :: a6 :: a7 :: a8 :: a9 :: a10 :: a11 :: a12 :: a13 :: a14 :: a15 :: a16 :: a17 :: some (.exn C xs) :: r) S) (Uk 18 KS)) : W (RS.exc (a0 :: a1 :: a2 :: a3 :: a4 :: a5 :: a6 :: a7 :: a8 :: a9 :: a10 :: a11 :: a12 :: a13 :: a14 :: a15 :: a16 :: a17 :: x :: r) C xs S) (Xk [(C, true)] 18 h KS) := w_tryx q
theorem w_t18 {a0 a1 a2 a3 a4 a5 a6 a7 a8 a9 a10 a11 a12 a13 a14 a15 a16 a17 x : Option D} {b : SF} (q : W (b (a0 :: a1 :: a2 :: a3 :: a4 :: a5 :: a6 :: a7 :: a8 :: a9 :: a10 :: a11 :: a12 :: a13 :: a14 :: a15 :: a16 :: a17 :: some d :: r) S) KS) : W ((fun d env S => match gN 18 d env S with
  | some env' => b env' S
  | none => RS.bad) d (a0 :: a1 :: a2 :: a3 :: a4 :: a5 :: a6 :: a7 :: a8 :: a9 :: a10 :: a11 :: a12 :: a13 :: a14 :: a15 :: a16 :: a17 :: x :: r) S) KS := q
theorem w_v19 {a0 a1 a2 a3 a4 a5 a6 a7 a8 a9 a10 a11 a12 a13 a14 a15 a16 a17 a18 : Option D} (q : W (R.ok d S) K) : W (fVar 19 (a0 :: a1 :: a2 :: a3 :: a4 :: a5 :: a6 :: a7 :: a8 :: a9 :: a10 :: a11 :: a12 :: a13 :: a14 :: a15 :: a16 :: a17 :: a18 :: some d :: r) S) K := q
theorem w_g19 {a0 a1 a2 a3 a4 a5 a6 a7 a8 a9 a10 a11 a12 a13 a14 a15 a16 a17 a18 x : Option D} (q : W (RS.fl (.nx (a0 :: a1 :: a2 :: a3 :: a4 :: a5 :: a6 :: a7 :: a8 :: a9 :: a10 :: a11 :: a12 :: a13 :: a14 :: a15 :: a16 :: a17 :: a18 :: some d :: r)) S) KS) : W (R.ok d S) (Gk (gN 19) (a0 :: a1 :: a2 :: a3 :: a4 :: a5 :: a6 :: a7 :: a8 :: a9 :: a10 :: a11 :: a12 :: a13 :: a14 :: a15 :: a16 :: a17 :: a18 :: x :: r) KS) := q
theorem w_tx19 {a0 a1 a2 a3 a4 a5 a6 a7 a8 a9 a10 a11 a12 a13 a14 a15 a16 a17 a18 x : Option D} {h : SF} {C : Addr} {xs : List (Str × D)} (q : W (h (a0 :: a1 :: a2 :: a3 :: a4 :: a5 :: a6 :: a7 :: a8 :: a9 :: a10 :: a11 :: a12 :: a13 :: a14 :: a15 :: a16 :: a17 :: a18 :: some (.exn C xs) :: r) S) (Uk 19 KS)) : W (RS.exc (a0 :: a1 :: a2 :: a3 :: a4 :: a5 :: a6 :: a7 :: a8 :: a9 :: a10 :: a11 :: a12 :: a13 :: a14 :: a15 :: a16 :: a17 :: a18 :: x :: r) C xs S) (Xk [(C, true)] 19 h KS) := w_tryx q
theorem w_t19 {a0 a1 a2 a3 a4 a5 a6 a7 a8 a9 a10 a11 a12 a13 a14 a15 a16 a17 a18 x : Option D} {b : SF} (q : W (b (a0 :: a1 :: a2 :: a3 :: a4 :: a5 :: a6 :: a7 :: a8 :: a9 :: a10 :: a11 :: a12 :: a13 :: a14 :: a15 :: a16 :: a17 :: a18 :: some d :: r) S) KS) : W ((fun d env S => match gN 19 d env S with
  | some env' => b env' S
  | none => RS.bad) d (a0 :: a1 :: a2 :: a3 :: a4 :: a5 :: a6 :: a7 :: a8 :: a9 :: a10 :: a11 :: a12 :: a13 :: a14 :: a15 :: a16 :: a17 :: a18 :: x :: r) S) KS := q
theorem w_v20 {a0 a1 a2 a3 a4 a5 a6 a7 a8 a9 a10 a11 a12 a13 a14 a15 a16 a17 a18 a19 : Option D} (q : W (R.ok d S) K) : W (fVar 20 (a0 :: a1 :: a2 :: a3 :: a4 :: a5 :: a6 :: a7 :: a8 :: a9 :: a10 :: a11 :: a12 :: a13 :: a14 :: a15 :: a16 :: a17 :: a18 :: a19 :: some d :: r) S) K := q
theorem w_g20 {a0 a1 a2 a3 a4 a5 a6 a7 a8 a9 a10 a11 a12 a13 a14 a15 a16 a17 a18 a19 x : Option D} (q : W (RS.fl (.nx (a0 :: a1 :: a2 :: a3 :: a4 :: a5 :: a6 :: a7 :: a8 :: a9 :: a10 :: a11 :: a12 :: a13 :: a14 :: a15 :: a16 :: a17 :: a18 :: a19 :: some d :: r)) S) KS) : W (R.ok d S) (Gk (gN 20) (a0 :: a1 :: a2 :: a3 :: a4 :: a5 :: a6 :: a7 :: a8 :: a9 :: a10 :: a11 :: a12 :: a13 :: a14 :: a15 :: a16 :: a17 :: a18 :: a19 :: x :: r) KS) := q
theorem w_tx20 {a0 a1 a2 a3 a4 a5 a6 a7 a8 a9 a10 a11 a12 a13 a14 a15 a16 a17 a18 a19 x : Option D} {h : SF} {C : Addr} {xs : List (Str × D)} (q : W (h (a0 :: a1 :: a2 :: a3 :: a4 :: a5 :: a6 :: a7 :: a8 :: a9 :: a10 :: a11 :: a12 :: a13 :: a14 :: a15 :: a16 :: a17 :: a18 :: a19 :: some (.exn C xs) :: r) S) (Uk 20 KS)) : W (RS.exc (a0 :: a1 :: a2 :: a3 :: a4 :: a5 :: a6 :: a7 :: a8 :: a9 :: a10 :: a11 :: a12 :: a13 :: a14 :: a15 :: a16 :: a17 :: a18 :: a19 :: x :: r) C xs S) (Xk [(C, true)] 20 h KS) := w_tryx q
theorem w_t20 {a0 a1 a2 a3 a4 a5 a6 a7 a8 a9 a10 a11 a12 a13 a14 a15 a16 a17 a18 a19 x : Option D} {b : SF} (q : W (b (a0 :: a1 :: a2 :: a3 :: a4 :: a5 :: a6 :: a7 :: a8 :: a9 :: a10 :: a11 :: a12 :: a13 :: a14 :: a15 :: a16 :: a17 :: a18 :: a19 :: some d :: r) S) KS) : W ((fun d env S => match gN 20 d env S with
  | some env' => b env' S
  | none => RS.bad) d (a0 :: a1 :: a2 :: a3 :: a4 :: a5 :: a6 :: a7 :: a8 :: a9 :: a10 :: a11 :: a12 :: a13 :: a14 :: a15 :: a16 :: a17 :: a18 :: a19 :: x :: r) S) KS := q
theorem w_v21 {a0 a1 a2 a3 a4 a5 a6 a7 a8 a9 a10 a11 a12 a13 a14 a15 a16 a17 a18 a19 a20 : Option D} (q : W (R.ok d S) K) : W (fVar 21 (a0 :: a1 :: a2 :: a3 :: a4 :: a5 :: a6 :: a7 :: a8 :: a9 :: a10 :: a11 :: a12 :: a13 :: a14 :: a15 :: a16 :: a17 :: a18 :: a19 :: a20 :: some d :: r) S) K := q
theorem w_g21 {a0 a1 a2 a3 a4 a5 a6 a7 a8 a9 a10 a11 a12 a13 a14 a15 a16 a17 a18 a19 a20 x : Option D} (q : W (RS.fl (.nx (a0 :: a1 :: a2 :: a3 :: a4 :: a5 :: a6 :: a7 :: a8 :: a9 :: a10 :: a11 :: a12 :: a13 :: a14 :: a15 :: a16 :: a17 :: a18 :: a19 :: a20 :: some d :: r)) S) KS) : W (R.ok d S) (Gk (gN 21) (a0 :: a1 :: a2 :: a3 :: a4 :: a5 :: a6 :: a7 :: a8 :: a9 :: a10 :: a11 :: a12 :: a13 :: a14 :: a15 :: a16 :: a17 :: a18 :: a19 :: a20 :: x :: r) KS) := q
theorem w_tx21 {a0 a1 a2 a3 a4 a5 a6 a7 a8 a9 a10 a11 a12 a13 a14 a15 a16 a17 a18 a19 a20 x : Option D} {h : SF} {C : Addr} {xs : List (Str × D)} (q : W (h (a0 :: a1 :: a2 :: a3 :: a4 :: a5 :: a6 :: a7 :: a8 :: a9 :: a10 :: a11 :: a12 :: a13 :: a14 :: a15 :: a16 :: a17 :: a18 :: a19 :: a20 :: some (.exn C xs) :: r) S) (Uk 21 KS)) : W (RS.exc (a0 :: a1 :: a2 :: a3 :: a4 :: a5 :: a6 :: a7 :: a8 :: a9 :: a10 :: a11 :: a12 :: a13 :: a14 :: a15 :: a16 :: a17 :: a18 :: a19 :: a20 :: x :: r) C xs S) (Xk [(C, true)] 21 h KS) := w_tryx q
theorem w_t21 {a0 a1 a2 a3 a4 a5 a6 a7 a8 a9 a10 a11 a12 a13 a14 a15 a16 a17 a18 a19 a20 x : Option D} {b : SF} (q : W (b (a0 :: a1 :: a2 :: a3 :: a4 :: a5 :: a6 :: a7 :: a8 :: a9 :: a10 :: a11 :: a12 :: a13 :: a14 :: a15 :: a16 :: a17 :: a18 :: a19 :: a20 :: some d :: r) S) KS) : W ((fun d env S => match gN 21 d env S with
  | some env' => b env' S
  | none => RS.bad) d (a0 :: a1 :: a2 :: a3 :: a4 :: a5 :: a6 :: a7 :: a8 :: a9 :: a10 :: a11 :: a12 :: a13 :: a14 :: a15 :: a16 :: a17 :: a18 :: a19 :: a20 :: x :: r) S) KS := q
theorem w_v22 {a0 a1 a2 a3 a4 a5 a6 a7 a8 a9 a10 a11 a12 a13 a14 a15 a16 a17 a18 a19 a20 a21 : Option D} (q : W (R.ok d S) K) : W (fVar 22 (a0 :: a1 :: a2 :: a3 :: a4 :: a5 :: a6 :: a7 :: a8 :: a9 :: a10 :: a11 :: a12 :: a13 :: a14 :: a15 :: a16 :: a17 :: a18 :: a19 :: a20 :: a21 :: some d :: r) S) K := q
theorem w_g22 {a0 a1 a2 a3 a4 a5 a6 a7 a8 a9 a10 a11 a12 a13 a14 a15 a16 a17 a18 a19 a20 a21 x : Option D} (q : W (RS.fl (.nx (a0 :: a1 :: a2 :: a3 :: a4 :: a5 :: a6 :: a7 :: a8 :: a9 :: a10 :: a11 :: a12 :: a13 :: a14 :: a15 :: a16 :: a17 :: a18 :: a19 :: a20 :: a21 :: some d :: r)) S) KS) : W (R.ok d S) (Gk (gN 22) (a0 :: a1 :: a2 :: a3 :: a4 :: a5 :: a6 :: a7 :: a8 :: a9 :: a10 :: a11 :: a12 :: a13 :: a14 :: a15 :: a16 :: a17 :: a18 :: a19 :: a20 :: a21 :: x :: r) KS) := q
theorem w_tx22 {a0 a1 a2 a3 a4 a5 a6 a7 a8 a9 a10 a11 a12 a13 a14 a15 a16 a17 a18 a19 a20 a21 x : Option D} {h : SF} {C : Addr} {xs : List (Str × D)} (q : W (h (a0 :: a1 :: a2 :: a3 :: a4 :: a5 :: a6 :: a7 :: a8 :: a9 :: a10 :: a11 :: a12 :: a13 :: a14 :: a15 :: a16 :: a17 :: a18 :: a19 :: a20 :: a21 :: some (.exn C xs) :: r) S) (Uk 22 KS)) : W (RS.exc (a0 :: a1 :: a2 :: a3 :: a4 :: a5 :: a6 :: a7 :: a8 :: a9 :: a10 :: a11 :: a12 :: a13 :: a14 :: a15 :: a16 :: a17 :: a18 :: a19 :: a20 :: a21 :: x :: r) C xs S) (Xk [(C, true)] 22 h KS) := w_tryx q
theorem w_t22 {a0 a1 a2 a3 a4 a5 a6 a7 a8 a9 a10 a11 a12 a13 a14 a15 a16 a17 a18 a19 a20 a21 x : Option D} {b : SF} (q : W (b (a0 :: a1 :: a2 :: a3 :: a4 :: a5 :: a6 :: a7 :: a8 :: a9 :: a10 :: a11 :: a12 :: a13 :: a14 :: a15 :: a16 :: a17 :: a18 :: a19 :: a20 :: a21 :: some d :: r) S) KS) : W ((fun d env S => match gN 22 d env S with
  | some env' => b env' S
  | none => RS.bad) d (a0 :: a1 :: a2 :: a3 :: a4 :: a5 :: a6 :: a7 :: a8 :: a9 :: a10 :: a11 :: a12 :: a13 :: a14 :: a15 :: a16 :: a17 :: a18 :: a19 :: a20 :: a21 :: x :: r) S) KS := q
theorem w_v23 {a0 a1 a2 a3 a4 a5 a6 a7 a8 a9 a10 a11 a12 a13 a14 a15 a16 a17 a18 a19 a20 a21 a22 : Option D} (q : W (R.ok d S) K) : W (fVar 23 (a0 :: a1 :: a2 :: a3 :: a4 :: a5 :: a6 :: a7 :: a8 :: a9 :: a10 :: a11 :: a12 :: a13 :: a14 :: a15 :: a16 :: a17 :: a18 :: a19 :: a20 :: a21 :: a22 :: some d :: r) S) K := q
theorem w_g23 {a0 a1 a2 a3 a4 a5 a6 a7 a8 a9 a10 a11 a12 a13 a14 a15 a16 a17 a18 a19 a20 a21 a22 x : Option D} (q : W (RS.fl (.nx (a0 :: a1 :: a2 :: a3 :: a4 :: a5 :: a6 :: a7 :: a8 :: a9 :: a10 :: a11 :: a12 :: a13 :: a14 :: a15 :: a16 :: a17 :: a18 :: a19 :: a20 :: a21 :: a22 :: some d :: r)) S) KS) : W (R.ok d S) (Gk (gN 23) (a0 :: a1 :: a2 :: a3 :: a4 :: a5 :: a6 :: a7 :: a8 :: a9 :: a10 :: a11 :: a12 :: a13 :: a14 :: a15 :: a16 :: a17 :: a18 :: a19 :: a20 :: a21 :: a22 :: x :: r) KS) := q
theorem w_tx23 {a0 a1 a2 a3 a4 a5 a6 a7 a8 a9 a10 a11 a12 a13 a14 a15 a16 a17 a18 a19 a20 a21 a22 x : Option D} {h : SF} {C : Addr} {xs : List (Str × D)} (q : W (h (a0 :: a1 :: a2 :: a3 :: a4 :: a5 :: a6 :: a7 :: a8 :: a9 :: a10 :: a11 :: a12 :: a13 :: a14 :: a15 :: a16 :: a17 :: a18 :: a19 :: a20 :: a21 :: a22 :: some (.exn C xs) :: r) S) (Uk 23 KS)) : W (RS.exc (a0 :: a1 :: a2 :: a3 :: a4 :: a5 :: a6 :: a7 :: a8 :: a9 :: a10 :: a11 :: a12 :: a13 :: a14 :: a15 :: a16 :: a17 :: a18 :: a19 :: a20 :: a21 :: a22 :: x :: r) C xs S) (Xk [(C, true)] 23 h KS) := w_tryx q
theorem w_t23 {a0 a1 a2 a3 a4 a5 a6 a7 a8 a9 a10 a11 a12 a13 a14 a15 a16 a17 a18 a19 a20 a21 a22 x : Option D} {b : SF} (q : W (b (a0 :: a1 :: a2 :: a3 :: a4 :: a5 :: a6 :: a7 :: a8 :: a9 :: a10 :: a11 :: a12 :: a13 :: a14 :: a15 :: a16 :: a17 :: a18 :: a19 :: a20 :: a21 :: a22 :: some d :: r) S) KS) : W ((fun d env S => match gN 23 d env S with
  | some env' => b env' S
  | none => RS.bad) d (a0 :: a1 :: a2 :: a3 :: a4 :: a5 :: a6 :: a7 :: a8 :: a9 :: a10 :: a11 :: a12 :: a13 :: a14 :: a15 :: a16 :: a17 :: a18 :: a19 :: a20 :: a21 :: a22 :: x :: r) S) KS := q
theorem w_v24 {a0 a1 a2 a3 a4 a5 a6 a7 a8 a9 a10 a11 a12 a13 a14 a15 a16 a17 a18 a19 a20 a21 a22 a23 : Option D} (q : W (R.ok d S) K) : W (fVar 24 (a0 :: a1 :: a2 :: a3 :: a4 :: a5 :: a6 :: a7 :: a8 :: a9 :: a10 :: a11 :: a12 :: a13 :: a14 :: a15 :: a16 :: a17 :: a18 :: a19 :: a20 :: a21 :: a22 :: a23 :: some d :: r) S) K := q
theorem w_g24 {a0 a1 a2 a3 a4 a5 a6 a7 a8 a9 a10 a11 a12 a13 a14 a15 a16 a17 a18 a19 a20 a21 a22 a23 x : Option D} (q : W (RS.fl (.nx (a0 :: a1 :: a2 :: a3 :: a4 :: a5 :: a6 :: a7 :: a8 :: a9 :: a10 :: a11 :: a12 :: a13 :: a14 :: a15 :: a16 :: a17 :: a18 :: a19 :: a20 :: a21 :: a22 :: a23 :: some d :: r)) S) KS) : W (R.ok d S) (Gk (gN 24) (a0 :: a1 :: a2 :: a3 :: a4 :: a5 :: a6 :: a7 :: a8 :: a9 :: a10 :: a11 :: a12 :: a13 :: a14 :: a15 :: a16 :: a17 :: a18 :: a19 :: a20 :: a21 :: a22 :: a23 :: x :: r) KS) := q
theorem w_tx24 {a0 a1 a2 a3 a4 a5 a6 a7 a8 a9 a10 a11 a12 a13 a14 a15 a16 a17 a18 a19 a20 a21 a22 a23 x : Option D} {h : SF} {C : Addr} {xs : List (Str × D)} (q : W (h (a0 :: a1 :: a2 :: a3 :: a4 :: a5 :: a6 :: a7 :: a8 :: a9 :: a10 :: a11 :: a12 :: a13 :: a14 :: a15 :: a16 :: a17 :: a18 :: a19 :: a20 :: a21 :: a22 :: a23 :: some (.exn C xs) :: r) S) (Uk 24 KS)) : W (RS.exc (a0 :: a1 :: a2 :: a3 :: a4 :: a5 :: a6 :: a7 :: a8 :: a9 :: a10 :: a11 :: a12 :: a13 :: a14 :: a15 :: a16 :: a17 :: a18 :: a19 :: a20 :: a21 :: a22 :: a23 :: x :: r) C xs S) (Xk [(C, true)] 24 h KS) := w_tryx q
theorem w_t24 {a0 a1 a2 a3 a4 a5 a6 a7 a8 a9 a10 a11 a12 a13 a14 a15 a16 a17 a18 a19 a20 a21 a22 a23 x : Option D} {b : SF} (q : W (b (a0 :: a1 :: a2 :: a3 :: a4 :: a5 :: a6 :: a7 :: a8 :: a9 :: a10 :: a11 :: a12 :: a13 :: a14 :: a15 :: a16 :: a17 :: a18 :: a19 :: a20 :: a21 :: a22 :: a23 :: some d :: r) S) KS) : W ((fun d env S => match gN 24 d env S with
  | some env' => b env' S
  | none => RS.bad) d (a0 :: a1 :: a2 :: a3 :: a4 :: a5 :: a6 :: a7 :: a8 :: a9 :: a10 :: a11 :: a12 :: a13 :: a14 :: a15 :: a16 :: a17 :: a18 :: a19 :: a20 :: a21 :: a22 :: a23 :: x :: r) S) KS := q
theorem w_v25 {a0 a1 a2 a3 a4 a5 a6 a7 a8 a9 a10 a11 a12 a13 a14 a15 a16 a17 a18 a19 a20 a21 a22 a23 a24 : Option D} (q : W (R.ok d S) K) : W (fVar 25 (a0 :: a1 :: a2 :: a3 :: a4 :: a5 :: a6 :: a7 :: a8 :: a9 :: a10 :: a11 :: a12 :: a13 :: a14 :: a15 :: a16 :: a17 :: a18 :: a19 :: a20 :: a21 :: a22 :: a23 :: a24 :: some d :: r) S) K := q
theorem w_g25 {a0 a1 a2 a3 a4 a5 a6 a7 a8 a9 a10 a11 a12 a13 a14 a15 a16 a17 a18 a19 a20 a21 a22 a23 a24 x : Option D} (q : W (RS.fl (.nx (a0 :: a1 :: a2 :: a3 :: a4 :: a5 :: a6 :: a7 :: a8 :: a9 :: a10 :: a11 :: a12 :: a13 :: a14 :: a15 :: a16 :: a17 :: a18 :: a19 :: a20 :: a21 :: a22 :: a23 :: a24 :: some d :: r)) S) KS) : W (R.ok d S) (Gk (gN 25) (a0 :: a1 :: a2 :: a3 :: a4 :: a5 :: a6 :: a7 :: a8 :: a9 :: a10 :: a11 :: a12 :: a13 :: a14 :: a15 :: a16 :: a17 :: a18 :: a19 :: a20 :: a21 :: a22 :: a23 :: a24 :: x :: r) KS) := q
theorem w_tx25 {a0 a1 a2 a3 a4 a5 a6 a7 a8 a9 a10 a11 a12 a13 a14 a15 a16 a17 a18 a19 a20 a21 a22 a23 a24 x : Option D} {h : SF} {C : Addr} {xs : List (Str × D)} (q : W (h (a0 :: a1 :: a2 :: a3 :: a4 :: a5 :: a6 :: a7 :: a8 :: a9 :: a10 :: a11 :: a12 :: a13 :: a14 :: a15 :: a16 :: a17 :: a18 :: a19 :: a20 :: a21 :: a22 :: a23 :: a24 :: some (.exn C xs) :: r) S) (Uk 25 KS)) : W (RS.exc (a0 :: a1 :: a2 :: a3 :: a4 :: a5 :: a6 :: a7 :: a8 :: a9 :: a10 :: a11 :: a12 :: a13 :: a14 :: a15 :: a16 :: a17 :: a18 :: a19 :: a20 :: a21 :: a22 :: a23 :: a24 :: x :: r) C xs S) (Xk [(C, true)] 25 h KS) := w_tryx q
theorem w_t25 {a0 a1 a2 a3 a4 a5 a6 a7 a8 a9 a10 a11 a12 a13 a14 a15 a16 a17 a18 a19 a20 a21 a22 a23 a24 x : Option D} {b : SF} (q : W (b (a0 :: a1 :: a2 :: a3 :: a4 :: a5 :: a6 :: a7 :: a8 :: a9 :: a10 :: a11 :: a12 :: a13 :: a14 :: a15 :: a16 :: a17 :: a18 :: a19 :: a20 :: a21 :: a22 :: a23 :: a24 :: some d :: r) S) KS) : W ((fun d env S => match gN 25 d env S with
  | some env' => b env' S
  | none => RS.bad) d (a0 :: a1 :: a2 :: a3 :: a4 :: a5 :: a6 :: a7 :: a8 :: a9 :: a10 :: a11 :: a12 :: a13 :: a14 :: a15 :: a16 :: a17 :: a18 :: a19 :: a20 :: a21 :: a22 :: a23 :: a24 :: x :: r) S) KS := q
end

/-! a list or tuple that is passed, also one that is a cell -/
def Giv (S : Sto) (g : D) (ds : List D) : Prop := g = .lst ds ∨ g = .tup ds ∨ ∃ m, g = .loc m ∧ S[m]? = some (.lst ds)
section
variable {S : Sto} {g d : D} {ds : List D} {env : Env} {KS : RS → Prop} {K : R D → Prop}
theorem Giv.seq (h : Giv S g ds) : seqOf S g = some ds := by
  rcases h with rfl | rfl | ⟨m, rfl, e⟩
  · rfl
  · rfl
  · show Cell.lst? S[m]? = _
    rw [e]; rfl
theorem Giv.len (h : Giv S g ds) : gLen S [g] = some (.int ds.length) := by
  rcases h with rfl | rfl | ⟨m, rfl, e⟩
  · rfl
  · rfl
  · exact gLen_loc e
theorem Giv.tpl (h : Giv S g ds) : gTuple S [g] = some (.tup ds) := by
  show (seqOf S g).map D.tup = _
  rw [h.seq]; rfl
theorem Giv.lst (h : Giv S g ds) : gList S [g] = some ds := h.seq
theorem Giv.ix {i : Nat} {z : D} (h : Giv S g ds) (e : ds[i]? = some z) : gIx S g (.int (i : Int)) = some z := by
  rcases h with rfl | rfl | ⟨m, rfl, e1⟩
  · exact gIx_lst e
  · exact gIx_tup e
  · exact gIx_loc e1 e
theorem Giv.mono {S' : Sto} (h : Giv S g ds) (hs : ∀ (m : Nat) (c : Cell), S[m]? = some c → S'[m]? = some c) : Giv S' g ds := h.imp id (Or.imp id fun ⟨m, e, q⟩ => ⟨m, e, hs _ _ q⟩)
theorem w_loopC {α : Type} {enc : α → D} {m : Nat} {body : D → SF} {all : List α} (hc : S[m]? = some (.lst (all.map enc))) (I : List α → List α → Env → Prop) : ∀ (post pre : List α) (env : Env), pre ++ post = all → I pre post env →
    (∀ pre x post env, pre ++ x :: post = all → I pre (x :: post) env → W (body (enc x) env S) (Lp (fun env S' => S' = S ∧ I (pre ++ [x]) post env) KS)) →
    (∀ env, I all [] env → W (RS.fl (.nx env) S) KS) → W (forS (.cell m) body post.length pre.length env S) KS
  | [], pre, env, hp, h, _, he => by
    have e : pre = all := by simpa using hp
    subst e
    have e2 : (Src.cell m).next S pre.length = some none := by
      show (Cell.lst? S[m]?).map _ = _
      rw [hc]
      show some ((pre.map enc)[pre.length]?) = _
      rw [List.getElem?_eq_none (by simp)]
    unfold forS
    rw [e2]
    exact he env h
  | x :: post, pre, env, hp, h, st, he => by
    have q := st pre x post env hp h
    have e2 : (Src.cell m).next S pre.length = some (some (enc x)) := by
      show (Cell.lst? S[m]?).map _ = _
      rw [hc]
      show some ((all.map enc)[pre.length]?) = _
      rw [← hp]
      simp
    have hp2 : (pre ++ [x]) ++ post = all := by rw [List.append_assoc]; exact hp
    have hl : pre.length + 1 = (pre ++ [x]).length := by rw [List.length_append]; rfl
    rw [List.length_cons]
    unfold forS
    rw [e2]
    show KS (match body (enc x) env S with
        | .fl (.nx env') S' => forS (.cell m) body post.length (pre.length + 1) env' S'
        | .fl (.ct env') S' => forS (.cell m) body post.length (pre.length + 1) env' S'
        | .fl (.bk env') S' => .fl (.nx env') S'
        | r => r)
    rw [hl]
    cases g : body (enc x) env S with
    | bad => rw [g] at q; exact q
    | exc env' C fs S' => rw [g] at q; exact q
    | fl f S' =>
      rw [g] at q
      cases f with
      | nx env' => obtain ⟨e9, q⟩ := q; rw [e9]; exact w_loopC hc I post (pre ++ [x]) env' hp2 q st he
      | ct env' => obtain ⟨e9, q⟩ := q; rw [e9]; exact w_loopC hc I post (pre ++ [x]) env' hp2 q st he
      | bk env' => exact q
      | rt d => exact q
/-- a loop that leaves the store, over what is passed -/
theorem w_for_giv {α : Type} {enc : α → D} {l : List α} {body : D → SF} (hg : Giv S g (l.map enc)) (I : List α → List α → Env → Prop) (h0 : I [] l env)
    (st : ∀ pre x post env, pre ++ x :: post = l → I pre (x :: post) env → W (body (enc x) env S) (Lp (fun env S' => S' = S ∧ I (pre ++ [x]) post env) KS))
    (he : ∀ env, I l [] env → W (RS.fl (.nx env) S) KS) : W (R.of (srcOf S g) S) (BkS env (fun s S1 => sForS s body env S1) KS) := by
  have fx : W (R.ok (Src.fix (l.map enc)) S) (BkS env (fun s S1 => sForS s body env S1) KS) := by
    refine w_for_fix (fun pre post env S' => S' = S ∧ I pre post env) ⟨rfl, h0⟩ (fun pre x post env S' e h => ?_) fun env S' h => ?_
    · obtain ⟨rfl, h⟩ := h; exact st pre x post env e h
    · obtain ⟨rfl, h⟩ := h; exact he env h
  rcases hg with rfl | rfl | ⟨m, rfl, e⟩
  · exact fx
  · exact fx
  · have es : srcOf S (.loc m) = some (.cell m) := by
      show (Cell.lst? S[m]?).map (fun _ => Src.cell m) = _
      rw [e]; rfl
    refine w_ofS es ?_
    show KS (forS (.cell m) body ((Cell.lst? S[m]?).getD []).length 0 env S)
    rw [e]
    show KS (forS (.cell m) body (l.map enc).length 0 env S)
    rw [List.length_map]
    exact w_loopC e I l [] env rfl h0 st he
theorem w_lenG (h : Giv S g ds) (q : W (R.ok (.int (ds.length : Nat)) S) K) : W (R.of (gLen S [g]) S) K := w_of h.len q
theorem w_tplG (h : Giv S g ds) (q : W (R.ok (.tup ds) S) K) : W (R.of (gTuple S [g]) S) K := w_of h.tpl q
end

/-! cells once more -/
section
variable {S S' : Sto} {env : Env} {d e x : D} {ds xs ys : List D} {f fo fi fa fb : F} {K : R D → Prop} {KS : RS → Prop} {m : Nat} {i : Int}
def BL (K : R D → Prop) : R (List D) → Prop := fun r => K (r.bind fun es S3 => .ok (.loc S3.length) (S3 ++ [.lst es]))
def BL1 (g : Sto → D → D → Option (List D)) (fb : F) (env : Env) (K : R D → Prop) : R D → Prop := fun r => K (r.bind fun d S1 => (fb env S1).bind fun e S2 => (R.of (g S2 d e) S2).bind fun es S3 => .ok (.loc S3.length) (S3 ++ [.lst es]))
def BL2 (g : Sto → D → D → Option (List D)) (d : D) (K : R D → Prop) : R D → Prop := fun r => K (r.bind fun e S2 => (R.of (g S2 d e) S2).bind fun es S3 => .ok (.loc S3.length) (S3 ++ [.lst es]))
theorem w_binL {g : Sto → D → D → Option (List D)} (q : W (fa env S) (BL1 g fb env K)) : W (fBinL g fa fb env S) K := q
theorem w_bl1 {g : Sto → D → D → Option (List D)} (q : W (fb env S) (BL2 g d K)) : W (R.ok d S) (BL1 g fb env K) := q
theorem w_bl2 {g : Sto → D → D → Option (List D)} (q : W (R.of (g S d e) S) (BL K)) : W (R.ok e S) (BL2 g d K) := q
theorem w_bl (q : W (R.ok (.loc S.length) (S ++ [.lst ds])) K) : W (R.ok ds S) (BL K) := q
theorem lst_loc (h : S[m]? = some (.lst xs)) : lstOf S (.loc m) = some xs := by
  show Cell.lst? S[m]? = _
  rw [h]; rfl
theorem gCat_of (h1 : lstOf S d = some xs) (h2 : lstOf S e = some ys) (hl : xs.length + ys.length ≤ 16777216) : gCat S d e = some (xs ++ ys) := by
  unfold gCat
  rw [h1, h2]
  exact if_pos (size16 hl)
theorem gAdd_of (h1 : lstOf S d = some xs) (h2 : lstOf S e = some ys) (hl : xs.length + ys.length ≤ 16777216) : gAdd S d e = some (.lst (xs ++ ys)) := by
  have q := gCat_of h1 h2 hl
  unfold gAdd
  cases d <;> first | (cases h1; done) | skip
  all_goals cases e <;> first | (cases h2; done) | skip
  all_goals (show (gCat S _ _).map D.lst = _; rw [q]; rfl)
theorem w_catC {KL : R (List D) → Prop} (hc : S[m]? = some (.lst xs)) (hl : xs.length + ys.length ≤ 16777216) (q : W (R.ok (xs ++ ys) S) KL) : W (R.of (gCat S (.loc m) (.lst ys)) S) KL := w_ofS (gCat_of (lst_loc hc) rfl hl) q
theorem w_catL {KL : R (List D) → Prop} (hl : xs.length + ys.length ≤ 16777216) (q : W (R.ok (xs ++ ys) S) KL) : W (R.of (gCat S (.lst xs) (.lst ys)) S) KL := w_ofS (gCat_of rfl rfl hl) q
theorem w_addCL (hc : S[m]? = some (.lst xs)) (hl : xs.length + ys.length ≤ 16777216) (q : W (R.ok (.lst (xs ++ ys)) S) K) : W (R.of (gAdd S (.loc m) (.lst ys)) S) K := w_of (gAdd_of (lst_loc hc) rfl hl) q
theorem w_addLC (hc : S[m]? = some (.lst ys)) (hl : xs.length + ys.length ≤ 16777216) (q : W (R.ok (.lst (xs ++ ys)) S) K) : W (R.of (gAdd S (.lst xs) (.loc m)) S) K := w_of (gAdd_of rfl (lst_loc hc) hl) q
theorem w_ixC {k : Nat} (hc : S[m]? = some (.lst xs)) (hi : i = (k : Int)) (hk : xs[k]? = some d) (q : W (R.ok d S) K) : W (R.of (gIx S (.loc m) (.int i)) S) K := by
  subst hi
  exact w_of (gIx_loc hc hk) q
theorem w_ixCm {α : Type} {enc : α → D} {l : List α} (hc : S[m]? = some (.lst (l.map enc))) (h0 : 0 ≤ i) (h1 : i < (l.length : Int)) (q : ∀ x, x ∈ l → l[i.toNat]? = some x → W (R.ok (enc x) S) K) : W (R.of (gIx S (.loc m) (.int i)) S) K := by
  obtain ⟨x, hx, hg, e⟩ := ixmap (enc := enc) h0 h1
  refine w_of (d := enc x) ?_ (q x hx hg)
  show (Cell.lst? S[m]?).bind (fun ds => atI ds i) = _
  rw [hc]
  exact e
theorem isi_loc {n : String} {tab : List (Addr × (String ⊕ Addr) × Bool)} (hc : S[m]? = some (.lst xs)) : gIsi tab S [.loc m, .ty n] = (L2.kitB "list" n).map .bl := by
  show gIsD tab S (.inl n) (.loc m) = _
  unfold gIsD
  show ((D.tyn S (.loc m)).bind fun t => (L2.kitB t n).map D.bl) = _
  have e : D.tyn S (.loc m) = some "list" := by
    show (Cell.lst? S[m]?).map (fun _ => "list") = _
    rw [hc]; rfl
  rw [e]; rfl
theorem w_isiL {n : String} {tab : List (Addr × (String ⊕ Addr) × Bool)} {b : Bool} (hc : S[m]? = some (.lst xs)) (hb : (L2.kitB "list" n).map D.bl = some (.bl b)) (q : W (R.ok (.bl b) S) K) : W (R.of (gIsi tab S [.loc m, .ty n]) S) K := w_of ((isi_loc hc).trans hb) q
theorem w_isi0 {tab : List (Addr × (String ⊕ Addr) × Bool)} {b : Bool} (hb : gIsi tab S ds = some (.bl b)) (q : W (R.ok (.bl b) S) K) : W (R.of (gIsi tab S ds) S) K := w_of hb q
/-- o[j] = e -/
def SI1 (fo fi : F) (env : Env) (K : RS → Prop) : R D → Prop := fun r => K (r.bindS env fun d S1 => (fo env S1).bindS env fun x S2 => (fi env S2).bindS env fun j S3 => match setAt d x j S3 with
  | some S4 => .fl (.nx env) S4
  | none => .bad)
def SI2 (d : D) (fi : F) (env : Env) (K : RS → Prop) : R D → Prop := fun r => K (r.bindS env fun x S2 => (fi env S2).bindS env fun j S3 => match setAt d x j S3 with
  | some S4 => .fl (.nx env) S4
  | none => .bad)
def SI3 (d x : D) (env : Env) (K : RS → Prop) : R D → Prop := fun r => K (r.bindS env fun j S3 => match setAt d x j S3 with
  | some S4 => .fl (.nx env) S4
  | none => .bad)
theorem w_setI (q : W (f env S) (SI1 fo fi env KS)) : W (sSetI f fo fi env S) KS := q
theorem w_si1 (q : W (fo env S) (SI2 d fi env KS)) : W (R.ok d S) (SI1 fo fi env KS) := q
theorem w_si2 (q : W (fi env S) (SI3 d x env KS)) : W (R.ok x S) (SI2 d fi env KS) := q
theorem w_si3 {k : Nat} (hc : S[m]? = some (.lst xs)) (hi : i = (k : Int)) (hk : k < xs.length) (hs : S.set m (.lst (xs.set k d)) = S') (q : W (RS.fl (.nx env) S') KS) : W (R.ok (.int i) S) (SI3 d (.loc m) env KS) := by
  show KS (match setAt d (.loc m) (.int i) S with
  | some S4 => .fl (.nx env) S4
  | none => .bad)
  have e : setAt d (.loc m) (.int i) S = some S' := by
    subst hi
    unfold setAt
    rw [locL_of hc]
    show (L2.ixN xs.length (k : Int)).map (fun j => S.set m (.lst (xs.set j d))) = _
    have e : L2.ixN xs.length (k : Int) = some k := by
      unfold L2.ixN
      rw [if_pos (by omega), if_pos (by omega)]
      rfl
    rw [e, ← hs]
    rfl
  rw [e]; exact q
/-! frozen: a def whose new cells are forgotten, told as values, however deep -/
def frzL (g : D → Option D) : List D → Option (List D)
  | [] => some []
  | d :: ds => match g d, frzL g ds with
    | some e, some es => some (e :: es)
    | _, _ => none
def frzV (n : Nat) (S3 : Sto) : Nat → D → Option D
  | 0, d => if d.plain n = true then some d else none
  | k + 1, d => if d.plain n = true then some d else match d with
    | .loc m => (match S3[m]? with
      | some (.lst ds) => (frzL (frzV n S3 k) ds).map .lst
      | some (.ins C fs) => if plainf n fs = true then some (.obj C fs) else none
      | none => none)
    | .tup ds => (frzL (frzV n S3 k) ds).map .tup
    | .lst ds => (frzL (frzV n S3 k) ds).map .lst
    | _ => none
theorem frzL_fin {n : Nat} {S3 : Sto} {g : D → Option D} (h : ∀ d e, g d = some e → Fin1 n S3 d e) : ∀ {ds es : List D}, frzL g ds = some es → FinL n S3 ds es
  | [], _, e => by cases e; exact .nil
  | d :: ds, es, e => by
    unfold frzL at e
    cases h1 : g d with
    | none => rw [h1] at e; cases e
    | some z =>
      cases h2 : frzL g ds with
      | none => rw [h1, h2] at e; cases e
      | some zs =>
        rw [h1, h2] at e
        cases e
        exact .cons (h _ _ h1) (frzL_fin h h2)
theorem frzV_fin {n : Nat} {S3 : Sto} : ∀ {k : Nat} {d e : D}, frzV n S3 k d = some e → Fin1 n S3 d e
  | 0, d, e, h => by
    unfold frzV at h
    by_cases hp : d.plain n = true
    · rw [if_pos hp] at h; cases h; exact .same hp
    · rw [if_neg hp] at h; cases h
  | k + 1, d, e, h => by
    unfold frzV at h
    by_cases hp : d.plain n = true
    · rw [if_pos hp] at h; cases h; exact .same hp
    · rw [if_neg hp] at h
      cases d with
      | loc m =>
        have hm : n ≤ m := by
          have : ¬ m < n := fun z => hp (by unfold D.plain; exact decide_eq_true z)
          omega
        have h : (match S3[m]? with
          | some (.lst ds) => (frzL (frzV n S3 k) ds).map D.lst
          | some (.ins C fs) => if plainf n fs = true then some (.obj C fs) else none
          | none => none) = some e := h
        cases g : S3[m]? with
        | none => rw [g] at h; cases h
        | some c =>
          rw [g] at h
          cases c with
          | lst ds =>
            have h : (frzL (frzV n S3 k) ds).map D.lst = some e := h
            cases g2 : frzL (frzV n S3 k) ds with
            | none => rw [g2] at h; cases h
            | some es => rw [g2] at h; cases h; exact .lst hm g (frzL_fin (fun _ _ q => frzV_fin q) g2)
          | ins C fs =>
            have h : (if plainf n fs = true then some (D.obj C fs) else none) = some e := h
            by_cases h3 : plainf n fs = true
            · rw [if_pos h3] at h; cases h; exact .ins hm g h3
            · rw [if_neg h3] at h; cases h
      | tup ds =>
        have h : (frzL (frzV n S3 k) ds).map D.tup = some e := h
        cases g2 : frzL (frzV n S3 k) ds with
        | none => rw [g2] at h; cases h
        | some es => rw [g2] at h; cases h; exact .inT (frzL_fin (fun _ _ q => frzV_fin q) g2)
      | lst ds =>
        have h : (frzL (frzV n S3 k) ds).map D.lst = some e := h
        cases g2 : frzL (frzV n S3 k) ds with
        | none => rw [g2] at h; cases h
        | some es => rw [g2] at h; cases h; exact .inL (frzL_fin (fun _ _ q => frzV_fin q) g2)
      | _ => cases h
def fzR (S : Sto) : R D → R D
  | .ok d S3 => if keptB S S3 = true then (match frzV S.length S3 6 d with
    | some e => .ok e (S3.take S.length)
    | none => .bad) else .bad
  | .exc C fs S3 => if (keptB S S3 && plainf S.length fs) = true then .exc C fs (S3.take S.length) else .bad
  | .bad => .bad
def fz (f : Fn) : Fn := fun ds S => fzR S (f ds S)
theorem fz_nice (f : Fn) (ds : List D) (S : Sto) : Nicer S (f ds S) (fz f ds S) := by
  show Nicer S (f ds S) (fzR S (f ds S))
  generalize f ds S = r0
  cases r0 with
  | bad => exact trivial
  | exc C fs S3 =>
    show Nicer S _ (if (keptB S S3 && plainf S.length fs) = true then .exc C fs (S3.take S.length) else .bad)
    by_cases h : (keptB S S3 && plainf S.length fs) = true
    · rw [if_pos h]
      obtain ⟨h1, h2⟩ := Bool.and_eq_true_iff.mp h
      exact ⟨S3, rfl, kept_shr h1, h2⟩
    · rw [if_neg h]
      exact trivial
  | ok d S3 =>
    show Nicer S _ (if keptB S S3 = true then (match frzV S.length S3 6 d with
      | some e => .ok e (S3.take S.length)
      | none => .bad) else .bad)
    by_cases h : keptB S S3 = true
    · rw [if_pos h]
      cases g : frzV S.length S3 6 d with
      | none => exact trivial
      | some e => exact ⟨d, S3, rfl, kept_shr h, frzV_fin g⟩
    · rw [if_neg h]
      exact trivial
theorem frzV_plain {n k : Nat} {S3 : Sto} {d : D} (h : d.plain n = true) : frzV n S3 k d = some d := by
  cases k <;> (unfold frzV; rw [if_pos h])
theorem frzL_plain {n k : Nat} {S3 : Sto} : ∀ {ds : List D}, plains n ds = true → frzL (frzV n S3 k) ds = some ds
  | [], _ => rfl
  | d :: ds, h => by
    unfold plains at h
    obtain ⟨h1, h2⟩ := Bool.and_eq_true_iff.mp h
    unfold frzL
    rw [frzV_plain h1, frzL_plain h2]
theorem frzV_loc {n k m : Nat} {S3 : Sto} {ds es : List D} (hm : n ≤ m) (hc : S3[m]? = some (.lst ds)) (hr : frzL (frzV n S3 k) ds = some es) : frzV n S3 (k + 1) (.loc m) = some (.lst es) := by
  have hp : ¬ (D.loc m).plain n = true := fun z => by
    unfold D.plain at z
    have := of_decide_eq_true z
    omega
  unfold frzV
  rw [if_neg hp]
  show (match S3[m]? with
      | some (.lst ds) => (frzL (frzV n S3 k) ds).map D.lst
      | some (.ins C fs) => if plainf n fs = true then some (.obj C fs) else none
      | none => none) = _
  rw [hc]
  show (frzL (frzV n S3 k) ds).map D.lst = _
  rw [hr]; rfl
theorem frzV_lst {n k : Nat} {S3 : Sto} {ds es : List D} (hr : frzL (frzV n S3 k) ds = some es) : frzV n S3 (k + 1) (.lst ds) = some (.lst es) := by
  unfold frzV
  by_cases hp : (D.lst ds).plain n = true
  · rw [if_pos hp]
    unfold D.plain at hp
    rw [frzL_plain hp] at hr
    cases hr
    rfl
  · rw [if_neg hp]
    show (frzL (frzV n S3 k) ds).map D.lst = _
    rw [hr]; rfl
theorem frzL_cons {g : D → Option D} {d e : D} {ds es : List D} (h : g d = some e) (t : frzL g ds = some es) : frzL g (d :: ds) = some (e :: es) := by
  unfold frzL
  rw [h, t]
def Fz (S : Sto) (K : R D → Prop) : R D → Prop := fun r => K (fzR S r)
theorem w_fz {f : Fn} (q : W (f ds S) (Fz S K)) : W (fz f ds S) K := q
theorem w_fz0 {S2 S3 : Sto} (h1 : S.length ≤ S3.length) (h2 : S3.take S.length = S2) (hS : S2.all (Cell.plain S.length) = true) (he : frzV S.length S3 6 d = some e) (q : W (R.ok e S2) K) : W (R.ok d S3) (Fz S K) := by
  have hk : keptB S S3 = true := by
    unfold keptB
    rw [h2, hS, decide_eq_true h1]
    rfl
  show K (if keptB S S3 = true then (match frzV S.length S3 6 d with
      | some e => .ok e (S3.take S.length)
      | none => .bad) else .bad)
  rw [if_pos hk, he, h2]
  exact q
theorem w_fz1 {L : Sto} (hS : S.all (Cell.plain S.length) = true) (he : frzV S.length (S ++ L) 6 d = some e) (q : W (R.ok e S) K) : W (R.ok d (S ++ L)) (Fz S K) :=
  w_fz0 (by rw [List.length_append]; omega) (by rw [List.take_append_of_le_length (Nat.le_refl _), List.take_length]) hS he q
theorem pl_ints (n : Nat) : ∀ xs : List Int, plains n (iD xs) = true
  | [] => by unfold plains; rfl
  | x :: r => by
    show plains n (D.int x :: iD r) = true
    unfold plains
    rw [pl_ints n r]
    unfold D.plain
    rfl
theorem pool_all {zs : List Int} {T : Sto} {n : Nat} (hT : T.all (Cell.plain n) = true) : (pool zs T).all (Cell.plain n) = true := by
  show ((Cell.lst (iD zs)).plain n && T.all (Cell.plain n)) = true
  rw [hT]
  show (plains n (iD zs) && true) = true
  rw [pl_ints]
  rfl
/-- with the pool ahead -/
theorem w_fzP {zs ws : List Int} {T L : Sto} (hT : T.all (Cell.plain (T.length + 1)) = true) (he : frzV (T.length + 1) (pool ws (T ++ L)) 6 d = some e) (q : W (R.ok e (pool ws T)) K) : W (R.ok d (pool ws (T ++ L))) (Fz (pool zs T) K) := by
  refine w_fz0 (S := pool zs T) (S3 := pool ws (T ++ L)) (S2 := pool ws T) (by show T.length + 1 ≤ (T ++ L).length + 1; rw [List.length_append]; omega) ?_ (pool_all hT) he q
  show (Cell.lst (iD ws) :: (T ++ L)).take (T.length + 1) = Cell.lst (iD ws) :: T
  rw [List.take_succ_cons, List.take_append_of_le_length (Nat.le_refl _), List.take_length]
end

/-! more: max, min, repetition, slices, own objects that are made -/
section
variable {S S' : Sto} {env : Env} {d e x : D} {ds xs ys : List D} {f fo fi fa fb : F} {fs : Fa} {K : R D → Prop} {KS : RS → Prop} {m : Nat} {i j : Int}
theorem w_max2 (q : ∀ m, m = max2 i j → i ≤ m → j ≤ m → (m = i ∨ m = j) → W (R.ok (.int m) S) K) : W (R.of (gI2C max2 S [.int i, .int j]) S) K := by
  refine w_i2 (q _ rfl ?_ ?_ ?_) <;> (unfold max2; split <;> omega)
theorem w_min2 (q : ∀ m, m = min2 i j → m ≤ i → m ≤ j → (m = i ∨ m = j) → W (R.ok (.int m) S) K) : W (R.of (gI2C min2 S [.int i, .int j]) S) K := by
  refine w_i2 (q _ rfl ?_ ?_ ?_) <;> (unfold min2; split <;> omega)
theorem gRep_of {k : Int} (h : lstOf S d = some xs) (h0 : 0 ≤ k) (h1 : xs.length * k.toNat ≤ 16777216) (h2 : k < 1000000000000) : gMulA S d (.int k) = some (.lst (List.replicate k.toNat xs).flatten) := by
  have e : gRep S d (.int k) = some (List.replicate k.toNat xs).flatten := by
    show ((lstOf S d).bind fun xs => if -(2 ^ 63) ≤ k ∧ k < 2 ^ 63 ∧ xs.length * k.toNat ≤ sizeLine then some (List.replicate k.toNat xs).flatten else none) = _
    rw [h]
    exact if_pos ⟨by omega, by omega, size16 h1⟩
  have g : gMul S d (.int k) = none := by
    cases d <;> first | rfl | (cases h; done)
  unfold gMulA
  rw [g, e]
  rfl
theorem rep_one {α : Type} (v : α) : ∀ n : Nat, (List.replicate n [v]).flatten = List.replicate n v
  | 0 => rfl
  | n + 1 => by rw [List.replicate_succ, List.flatten_cons, rep_one v n, List.replicate_succ]; rfl
theorem w_rep1 {v : Int} {k : Int} (h0 : 0 ≤ k) (h1 : k ≤ 16777216) (q : W (R.ok (.lst (iD (List.replicate k.toNat v))) S) K) : W (R.of (gMulA S (.lst [.int v]) (.int k)) S) K := by
  refine w_of (gRep_of (S := S) (d := .lst [.int v]) rfl h0 (by show 1 * k.toNat ≤ _; omega) (by omega)) ?_
  rw [rep_one]
  have : iD (List.replicate k.toNat v) = List.replicate k.toNat (D.int v) := by simp [iD]
  rw [← this]
  exact q
def cutL {α : Type} (l : List α) (lo hi : Option Int) : List α := (l.drop (HT.sIx l.length 0 lo)).take (HT.sIx l.length l.length hi - HT.sIx l.length 0 lo)
theorem cutD_map {α : Type} {enc : α → D} {l : List α} {lo hi : Option Int} : cutD (l.map enc) lo hi = (cutL l lo hi).map enc := by
  unfold cutD cutL
  rw [List.length_map, List.map_take, List.map_drop]
theorem cutL_len {α : Type} {l : List α} {lo hi : Option Int} : (cutL l lo hi).length ≤ l.length := by
  unfold cutL
  rw [List.length_take, List.length_drop]
  omega
theorem w_slM {α : Type} {enc : α → D} {l : List α} {lo hi : Option Int} (q : (cutL l lo hi).length ≤ l.length → W (R.ok (.lst ((cutL l lo hi).map enc)) S) K) : W (R.of (gSl S (.lst (l.map enc)) lo hi) S) K := by
  refine w_of (d := .lst ((cutL l lo hi).map enc)) ?_ (q cutL_len)
  show some (D.lst (cutD (l.map enc) lo hi)) = _
  rw [cutD_map]
theorem w_slMF {α : Type} {enc : α → D} {l : List α} {lo hi : Option Int} (q : (cutL l lo hi).length ≤ l.length → W (R.ok (.lst ((cutL l lo hi).map enc)) S) K) : W (R.of (gSl S (.fls (l.map enc)) lo hi) S) K := by
  refine w_of (d := .lst ((cutL l lo hi).map enc)) ?_ (q cutL_len)
  show some (D.lst (cutD (l.map enc) lo hi)) = _
  rw [cutD_map]
/-- an own object is made -/
def Mk (S : Sto) (K : R D → Prop) : R D → Prop := fun r => K (mkR S r)
theorem w_mk {C : Addr} {fn : Fn} (q : W (fs env S) (Bk (fun ds S1 => mkR S1 (fn (.loc S1.length :: ds) (S1 ++ [.ins C []]))) K)) : W (fMk C fn fs env S) K := q
theorem w_mk0 {fn : Fn} {C : Addr} (q : W (fn (.loc S.length :: ds) (S ++ [.ins C []])) (Mk S K)) : W (mkR S (fn (.loc S.length :: ds) (S ++ [.ins C []]))) K := q
theorem putD_lt {n : Str} {k : Nat} : ∀ {gs : List (Str × D)}, gs.length < k → (putD n d gs).length < k + 1
  | [], h => by show 1 < k + 1; have : 0 < k := h; omega
  | q :: r, h => by
    show (if q.1 = n then (n, d) :: r else q :: putD n d r).length < k + 1
    have h : r.length + 1 < k := h
    split
    · show r.length + 1 < k + 1; omega
    · have := putD_lt (n := n) (k := k - 1) (gs := r) (by omega)
      show (putD n d r).length + 1 < k + 1
      omega
/-- o.f = e -/
def FD1 (cls : List Addr) (n : Str) (fo : F) (env : Env) (K : RS → Prop) : R D → Prop := fun r => K (r.bindS env fun d S1 => (fo env S1).bindS env fun x S2 => match x with
  | .loc m => (match S2[m]? with
    | some (.ins C gs) => if C ∈ cls ∧ gs.length < 1000 then .fl (.nx env) (S2.set m (.ins C (putD n d gs))) else .bad
    | _ => .bad)
  | _ => .bad)
def FD2 (cls : List Addr) (n : Str) (d : D) (env : Env) (K : RS → Prop) : R D → Prop := fun r => K (r.bindS env fun x S2 => match x with
  | .loc m => (match S2[m]? with
    | some (.ins C gs) => if C ∈ cls ∧ gs.length < 1000 then .fl (.nx env) (S2.set m (.ins C (putD n d gs))) else .bad
    | _ => .bad)
  | _ => .bad)
theorem w_fldD {cls : List Addr} {n : Str} (q : W (f env S) (FD1 cls n fo env KS)) : W (sFldD cls n f fo env S) KS := q
theorem w_fd1 {cls : List Addr} {n : Str} (q : W (fo env S) (FD2 cls n d env KS)) : W (R.ok d S) (FD1 cls n fo env KS) := q
theorem w_fd2 {cls : List Addr} {n : Str} {C : Addr} {gs : List (Str × D)} (hc : S[m]? = some (.ins C gs)) (hm : decide (C ∈ cls) = true) (hl : gs.length < 1000) (hs : S.set m (.ins C (putD n d gs)) = S') (q : W (RS.fl (.nx env) S') KS) : W (R.ok (.loc m) S) (FD2 cls n d env KS) := by
  show KS (match S[m]? with
    | some (.ins C gs) => if C ∈ cls ∧ gs.length < 1000 then .fl (.nx env) (S.set m (.ins C (putD n d gs))) else .bad
    | _ => .bad)
  rw [hc]
  show KS (if C ∈ cls ∧ gs.length < 1000 then .fl (.nx env) (S.set m (.ins C (putD n d gs))) else .bad)
  rw [if_pos ⟨of_decide_eq_true hm, hl⟩, hs]
  exact q
end
end FL
set_option maxRecDepth 100000
set_option maxHeartbeats 2000000
/-! FLJ: enumerate over a tuple -/
namespace FL
open PySem PySem.Spec PyProof.Rows L2
section
variable {prog : Program} {w : World} {A : Around} {E : Value → Shared → Prop} {s : Shared}
end
section
variable {prog : Program} {w : World} {A : Around} {E : Value → Shared → Prop} {s : Shared}
end
/-- the tuple at a as it stands at each turn, each item in a new pair -/
def IteT (K : PySem.W.Frag) (a : Addr) : It :=
  ⟨fun i H => ∃ (xs : List V) (x : V), SqT K H a xs ∧ xs[i]? = some x, fun i H v H' => ∃ T x, ∃ ob : Obj, ob.dict = none ∧ v = .ref T ∧ H T = none ∧ H' = upd H T (.frz ob (.tup [.int (i : Nat), x])) ∧ ∀ xs, SqT K H a xs → xs[i]? = some x, fun i H => ∃ xs : List V, SqT K H a xs ∧ xs.length ≤ i⟩
def iEnumT (K : PySem.W.Frag) (ta : TA) : TI := fun σ H R => ta σ H fun vs H1 => ∃ a xs, vs = [.ref a] ∧ SqT K H1 a xs ∧ R (IteT K a) H1
/-! enumerate as a source -/
def enumD : Int → List D → List D
  | _, [] => []
  | k, d :: r => .tup [.int k, d] :: enumD (k + 1) r
def srcEn (S : Sto) : List D → Option Src
  | [.tup ds] => some (.fix (enumD 0 ds))
  | _ => none
def iEn (f : Fa) : Fi := fun env S => (f env S).bind fun ds S1 => R.of (srcEn S1 ds) S1
section
variable {K : PySem.W.Frag} {P : Pn} {X : Cx} {W : WX} {e : Expr} {fs : Fa} {p pos tpos : Pos} {elts : List Expr} {kk : Nat}
end
/-! ### list(range(n)), tuple(range(n)) as values -/
def gRgV (mk : List D → D) : Sto → List D → Option D := fun S ds => (gLRg lo1 S ds).map mk
section
variable {X : Cx} {P : Pn} {W : WX} {a : Expr} {fa : F} {p pos p2 pos2 : Pos}
def tTupRgZ (te : St → Hp → (Int → Int → Hp → Prop) → Prop) : TE := fun σ H Q => te σ H fun a b H1 => RgOk a b ∧ ∀ q (ob : Obj), H1 q = none → ob.dict = none → Q (.ref q) (upd H1 q (.frz ob (.tup (rgV a b))))
end
/-! ### keywords in another order -/
def pick {α : Type} (ix : List Nat) (l : List α) : List α := ix.filterMap fun i => l[i]?
end FL
set_option maxRecDepth 100000
set_option maxHeartbeats 2000000
/-! FLK: methods of lists and tuples alike (count, index) -/
namespace FL
open PySem PySem.Spec PyProof.Rows L2
section
variable {X : Cx}
/-- a tuple whose methods can be called -/
def tyT (K : PySem.W.Frag) (x : V) (H : Hp) : Prop := ∃ p, x = .ref p ∧ ((∃ xs, TupR H p xs) ∨ ∃ o, K.lookup p = some o ∧ o.cls = .type "tuple" ∧ o.dict = none)
theorem tyT_is {pins : List (Addr × Obj)} {σ : St} {H : Hp} {s : Shared} {x : V} {v : Value} (I : Inv X pins σ H s) (r : RelV x v) (ty : tyT X.K x H) :
    s.TypeIs v "tuple" ∧ ∀ a, v = .ref a → ∃ ob, s.heap.get? a = some ob ∧ ob.dict = none := by
  obtain ⟨p, rfl, ty⟩ := ty
  cases r
  rcases ty with ⟨xs, o, hk, hd⟩ | ⟨o, hk, hc, hd⟩
  · obtain ⟨e, _, _, _, o', e', hc, _⟩ := (show ObjOk X.prog X.w H s.heap p (.frz o (.tup xs)) from I.hok p _ hk)
    rw [e] at e'
    cases e'
    refine ⟨⟨o, e, hc⟩, fun a q => ?_⟩
    cases q
    exact ⟨o, e, hd⟩
  · refine ⟨⟨o, I.kIn p o hk, hc⟩, fun a e => ?_⟩
    cases e
    exact ⟨o, I.kIn p o hk, hd⟩
theorem TupAt.ty {K : PySem.W.Frag} {w : Vw} {a : Addr} {xs : List V} (h : TupAt K w a xs) : tyT K (.ref a) w.H := by
  rcases h with ⟨h, _⟩ | ⟨o, _, _, h1, h2, h3, _⟩
  · exact ⟨a, rfl, .inl ⟨xs, h⟩⟩
  · exact ⟨a, rfl, .inr ⟨o, h1, h2, h3⟩⟩
def tBMS (K : PySem.W.Frag) (r1 r2 : V → List V → Hp → VK → Prop) (to : TE) (t : TA) : TE := fun σ H Q => to σ H fun x H1 =>
  (tyV K "list" x H1 ∧ t σ H1 fun xs H2 => r1 x xs H2 Q) ∨ (tyT K x H1 ∧ t σ H1 fun xs H2 => r2 x xs H2 Q)
variable {o e : Expr} {es : List Expr} {to : TE} {t : TA} {name : Str} {apos cpos : Pos} {id1 id2 : String} {r1 r2 : V → List V → Hp → VK → Prop}
theorem pe_bmS (slot1 : Slot "list" name id1) (hty1 : typeOf (.builtin id1) = pure (.type "method_descriptor")) (hm1 : MtR X id1 r1)
    (slot2 : Slot "tuple" name id2) (hty2 : typeOf (.builtin id2) = pure (.type "method_descriptor")) (hm2 : MtR X id2 r2) (ho : PE X o to) (ha : PA X (e :: es) t)
    (hbase : attributeBase o name X.env (eval o X.env) = eval o X.env := by rfl)
    (hfew : ((backTo cpos (starEach (e :: es) X.env)).all (fun x => !x.1) && (backToKw cpos (keywordEach [] X.env)).all (fun x => x.1.isSome)
      && decide ((e :: es).length + ([] : List Keyword).length + (if ([] : List Keyword).isEmpty then 0 else 1) < 30)) = true := by rfl)
    (hline : (apos.endLine == cpos.line) = true := by rfl) (hs : starEach (e :: es) X.env = (false, eval e X.env) :: starEach es X.env := by rfl) (hplain : (backTo cpos (starEach es X.env)).any (·.1) = false := by rfl) :
    PE X (.Call (.Attribute o name apos) (e :: es) [] cpos) (tBMS X.K r1 r2 to t) := by
  refine ⟨fun pins s σ H Q I h => ?_⟩
  refine wpAny_Call_method_late hbase hfew hline rfl (thn (ho.run pins s σ H _ I h) fun v s1 ⟨x, H1, I1, rv, q1⟩ => ?_)
  rcases q1 with ⟨ty, q1⟩ | ⟨ty, q1⟩
  · obtain ⟨h1, h2⟩ := tyV_is I1 rv ty
    refine ⟨"list", id1, PySem.F.plainAttrs_list, slot1, hty1, h1, h2, ?_⟩
    have hA := ha.run cpos pins s1 σ H1 _ I1 q1
    rw [hs] at hA ⊢
    refine Calls.callWith_builtin (by show (false || (backTo cpos (starEach es X.env)).any (·.1)) = false; rw [hplain] <;> rfl) (Calls.evalArgs_plain ?_)
    exact thn hA fun us s2 ⟨vs, H2, I2, r3, q2⟩ => hm1 pins s2 σ H2 x vs v us Q I2 rv r3 q2
  · obtain ⟨h1, h2⟩ := tyT_is I1 rv ty
    refine ⟨"tuple", id2, PySem.F.plainAttrs_tuple, slot2, hty2, h1, h2, ?_⟩
    have hA := ha.run cpos pins s1 σ H1 _ I1 q1
    rw [hs] at hA ⊢
    refine Calls.callWith_builtin (by show (false || (backTo cpos (starEach es X.env)).any (·.1)) = false; rw [hplain] <;> rfl) (Calls.evalArgs_plain ?_)
    exact thn hA fun us s2 ⟨vs, H2, I2, r3, q2⟩ => hm2 pins s2 σ H2 x vs v us Q I2 rv r3 q2
/-- t.count(x) -/
def rCntT (K : PySem.W.Frag) : V → List V → Hp → VK → Prop := fun x xs H Q => ∃ (p : Addr) (ys : List V) (k : V), x = .ref p ∧ xs = [k] ∧ SqT K H p ys ∧ flatV k = true ∧ ys.all flatV = true ∧ Q (.int (ys.countP (fun y => eqV y k) : Nat)) H
/-- t.index(x), x there -/
def rIdx (Sq : Hp → Addr → List V → Prop) : V → List V → Hp → VK → Prop := fun x xs H Q => ∃ (p : Addr) (ys : List V) (k : V) (j : Nat), x = .ref p ∧ xs = [k] ∧ Sq H p ys ∧ flatV k = true ∧ ys.all flatV = true ∧
  (∃ y, ys[j]? = some y ∧ eqV y k = true) ∧ (∀ m y, m < j → ys[m]? = some y → eqV y k = false) ∧ Q (.int (j : Nat)) H
theorem idx_at {its : List Value} {ys : List V} {k : V} {j : Nat} (rv : Vals ys its) (fs : ys.all flatV = true) (hy : ∃ y, ys[j]? = some y ∧ eqV y k = true) (hno : ∀ m y, m < j → ys[m]? = some y → eqV y k = false) :
    ∃ hj : j < its.toArray.size, eqU k its.toArray[j] = true ∧ ∀ m (hm : m < its.toArray.size), m < j → eqU k its.toArray[m] = false := by
  have hl : its.toArray.size = ys.length := by rw [List.size_toArray, ← rv.length]
  have at' : ∀ (m : Nat) (y : V), ys[m]? = some y → ∃ hm : m < its.toArray.size, eqU k its.toArray[m] = eqV y k := fun m y hm => by
    obtain ⟨u, hu, ru⟩ := rv.get hm
    have hm' : m < its.length := (List.getElem?_eq_some_iff.mp hu).1
    refine ⟨by simpa using hm', ?_⟩
    have e : its.toArray[m]'(by simpa using hm') = u := by
      have := (List.getElem?_eq_some_iff.mp hu).2
      simpa using this
    rw [e]
    exact eqU_of ru (List.all_eq_true.mp fs y (List.mem_of_getElem? hm))
  obtain ⟨y, h1, h2⟩ := hy
  obtain ⟨hj, e⟩ := at' j y h1
  refine ⟨hj, by rw [e]; exact h2, fun m hm hmj => ?_⟩
  have hm' : m < ys.length := by rw [← hl]; exact hm
  obtain ⟨_, e2⟩ := at' m ys[m] (List.getElem?_eq_getElem hm')
  rw [e2]
  exact hno m _ hmj (List.getElem?_eq_getElem hm')
theorem mt_idxT : MtR X "tuple.index" (rIdx (SqT X.K)) := by
  intro pins s σ H x xs v us Q I rx rxs h
  obtain ⟨p, ys, k, j, rfl, rfl, hs, fk, fs, hy, hno, q⟩ := h
  cases rx
  obtain ⟨u, rfl, ru⟩ := vals1 rxs
  obtain ⟨its, rv, pl, hlen⟩ := I.tuple hs
  obtain ⟨⟨cls, dd, data, sl⟩, ho, hc, n, hd⟩ := pl
  simp only at hc hd
  subst hc hd
  obtain ⟨hj, hit, hn⟩ := idx_at rv fs hy hno
  exact call_meets PySem.F.slot_tuple_index ⟨_, ho, rfl⟩ PySem.F.entry_tuple_index (PySem.F.args_tuple_index_2 _ _)
    (TI.tuple_indexAt p its.toArray n dd sl u (eqU k) j hj hit hn) ⟨ho, fun y hy => mem_eqAt ru fk rv fs y (by simpa using hy), ⟨.int (j : Nat), H, I.tok _, ⟨_, rfl⟩, q⟩⟩
theorem mt_idxL : MtR X "list.index" (rIdx (SqL X.K)) := by
  intro pins s σ H x xs v us Q I rx rxs h
  obtain ⟨p, ys, k, j, rfl, rfl, hs, fk, fs, hy, hno, q⟩ := h
  cases rx
  obtain ⟨u, rfl, ru⟩ := vals1 rxs
  obtain ⟨its, rv, ⟨⟨cls, dd, data, sl⟩, n, ho, hc, hdn, hd⟩, hlen⟩ := I.list hs
  simp only at hc hd
  subst hc hd
  obtain ⟨hj, hit, hn⟩ := idx_at rv fs hy hno
  have hsz : (j : Int) < 2 ^ 63 - 1 := by
    have h1 : its.toArray.size = ys.length := by rw [List.size_toArray, ← rv.length]
    have h2 := hlen
    rw [sizeLine_eq] at h2
    omega
  exact call_meets PySem.F.slot_list_index ⟨_, ho, rfl⟩ PySem.F.entry_list_index (PySem.F.args_list_index_2 _ _)
    (SeqAt.list_indexAt p its.toArray n dd sl u (eqU k) j hj hsz hit hn) ⟨ho, fun y hy => mem_eqAt ru fk rv fs y (by simpa using hy), ⟨.int (j : Nat), H, I.tok _, ⟨_, rfl⟩, q⟩⟩
end
/-- a method that reads a list or a tuple -/
def fMethS (g : List D → List D → Option D) (fo : F) (fs : Fa) : F := fun env S => (fo env S).bind fun d S1 => match seqOf S1 d with
  | some _ => (fs env S1).bind fun ds S2 => R.of ((seqOf S2 d).bind fun xs => g xs ds) S2
  | none => .bad
section
variable {X : Cx} {K : PySem.W.Frag} {P : Pn} {W : WX} {a b : Expr} {es : List Expr} {fa fb : F} {fs : Fa} {pos p : Pos}
def SimSq (K : PySem.W.Frag) (P : Pn) (Sq : Hp → Addr → List V → Prop) (r : V → List V → Hp → VK → Prop) (g : List D → List D → Option D) : Prop :=
  ∀ (w : Vw) (p : Addr) (xs vs : List V) (ds es : List D) (z : D) (Q : VK), w.Ok K → Sq w.H p xs → Reps K P w xs ds → Reps K P w vs es → g ds es = some z → (∀ v, Rep K P w v z → Q v w.H) → r (.ref p) vs w.H Q
theorem fe_methS {r1 r2 : V → List V → Hp → VK → Prop} {g : List D → List D → Option D} {name : Str} {id1 id2 : String} {apos cpos : Pos} (hm1 : MtR X id1 r1) (hm2 : MtR X id2 r2) (hs1 : SimSq X.K P (SqL X.K) r1 g) (hs2 : SimSq X.K P (SqT X.K) r2 g)
    (slot1 : Slot "list" name id1) (hty1 : typeOf (.builtin id1) = pure (.type "method_descriptor")) (slot2 : Slot "tuple" name id2) (hty2 : typeOf (.builtin id2) = pure (.type "method_descriptor")) (ho : FE X P W a fa) (ha : FA X P W (b :: es) fs)
    (hbase : attributeBase a name X.env (eval a X.env) = eval a X.env := by rfl)
    (hfew : ((backTo cpos (starEach (b :: es) X.env)).all (fun x => !x.1) && (backToKw cpos (keywordEach [] X.env)).all (fun x => x.1.isSome)
      && decide ((b :: es).length + ([] : List Keyword).length + (if ([] : List Keyword).isEmpty then 0 else 1) < 30)) = true := by rfl)
    (hline : (apos.endLine == cpos.line) = true := by rfl) (hst : starEach (b :: es) X.env = (false, eval b X.env) :: starEach es X.env := by rfl) (hplain : (backTo cpos (starEach es X.env)).any (·.1) = false := by rfl) :
    FE X P W (.Call (.Attribute a name apos) (b :: es) [] cpos) (fMethS g fa fs) := by
  refine peI (pe_bmS slot1 hty1 hm1 slot2 hty2 hm2 ho ha hbase hfew hline hst hplain) fun σ H Q ⟨w, env, hH, o, en, p⟩ => ?_
  subst hH
  refine re_bind o en p fun w1 x d e1 o1 en1 rd p1 => ?_
  by_cases hd : ∃ ds, d = .tup ds
  · obtain ⟨ds, rfl⟩ := hd
    cases rd with
    | tup h rr =>
      refine .inr ⟨h.ty, ?_⟩
      have p1 : Post X.K w1 ((fs env w1.S).bind fun es S2 => R.of (g ds es) S2) _ _ := p1
      refine ra_bind o1 en1 p1 fun w2 xs es e2 o2 en2 r2 p2 => ?_
      obtain ⟨z, hz, q⟩ := p2.of
      exact hs2 w2 _ _ xs ds es z Q o2 (e2.tup h).sq (rr.to e2) r2 hz fun v r' => q w2 (Ext.refl _) rfl o2 v r'
  · cases h1 : lisOf w1.S d with
    | none =>
      have h2 : seqOf w1.S d = none := by
        unfold seqOf
        split
        · exact absurd ⟨_, rfl⟩ hd
        · exact h1
      rw [h2] at p1
      exact p1.elim
    | some ds =>
      have h2 : seqOf w1.S d = some ds := by
        unfold seqOf
        split
        · exact absurd ⟨_, rfl⟩ hd
        · exact h1
      rw [h2] at p1
      obtain ⟨a, xs, rfl, hl, _⟩ := lis_of o1 rd h1
      refine .inl ⟨.inl ⟨rfl, xs, hl⟩, ra_bind o1 en1 p1 fun w2 vs es e2 o2 en2 r2 p2 => ?_⟩
      obtain ⟨z, hz, q⟩ := p2.of
      cases h3 : seqOf w2.S d with
      | none => rw [h3] at hz; cases hz
      | some ds2 =>
        rw [h3] at hz
        have h4 : lisOf w2.S d = some ds2 := by
          unfold seqOf at h3
          split at h3
          · exact absurd ⟨_, rfl⟩ hd
          · exact h3
        obtain ⟨a', xs', ea, hl', rr⟩ := lis_of o2 (rd.to e2) h4
        cases ea
        exact hs1 w2 _ _ vs ds2 es z Q o2 hl' rr r2 hz fun v r' => q w2 (Ext.refl _) rfl o2 v r'
def cntS : List D → List D → Option D := fun ds es => match es with
  | [e] => if (e.flat && ds.all D.flat) = true then some (.int (ds.countP fun d => eqD d e : Nat)) else none
  | _ => none
def idxS : List D → List D → Option D := fun ds es => match es with
  | [e] => if (e.flat && ds.all D.flat) = true then (ds.findIdx? fun d => eqD d e).map fun j : Nat => .int (j : Int) else none
  | _ => none
theorem sq_idx {Sq : Hp → Addr → List V → Prop} : SimSq K P Sq (rIdx Sq) idxS := by
  intro w p xs vs ds es z Q o hs rr rv e k
  cases es with
  | nil => cases e
  | cons x t =>
    cases t with
    | cons _ _ => cases e
    | nil =>
      have e : (if (x.flat && ds.all D.flat) = true then (ds.findIdx? fun d => eqD d x).map fun j : Nat => D.int (j : Int) else none) = some z := e
      by_cases h : (x.flat && ds.all D.flat) = true
      · rw [if_pos h] at e
        obtain ⟨h1, h2⟩ := Bool.and_eq_true_iff.mp h
        cases g : ds.findIdx? (fun d => eqD d x) with
        | none => rw [g] at e; cases e
        | some j =>
          rw [g] at e
          cases e
          obtain ⟨hj, hit, hno⟩ := List.findIdx?_eq_some_iff_getElem.mp g
          cases rv with
          | cons a t =>
            cases t
            have at' : ∀ (m : Nat) (d : D) (v : V), ds[m]? = some d → Rep K P w v d → eqV v _ = eqD d x := fun m d v hm rd => eqD_ok rd a (List.all_eq_true.mp h2 d (List.mem_of_getElem? hm)) h1
            refine ⟨p, xs, _, j, rfl, rfl, hs, flat_ok a h1, flats_ok rr h2, ?_, fun m y hm hy => ?_, k _ (.int _)⟩
            · obtain ⟨v, hv, rd⟩ := rr.get (List.getElem?_eq_getElem hj)
              exact ⟨v, hv, (at' _ _ v (List.getElem?_eq_getElem hj) rd).trans hit⟩
            · obtain ⟨d, hd, rd⟩ := rr.getV hy
              rw [at' _ _ y hd rd]
              have hm2 : m < ds.length := Nat.lt_trans hm hj
              have e3 : ds[m] = d := by
                have := (List.getElem?_eq_some_iff.mp hd).2
                exact this
              have := hno m hm
              rw [e3] at this
              simpa using this
      · rw [if_neg h] at e
        cases e
end
/-! running: methods of lists and tuples, in, is None, the first item -/
section
variable {S : Sto} {env : Env} {d e : D} {ds es : List D} {fo : F} {fs : Fa} {K : R D → Prop} {KS : RS → Prop} {m : Nat}
def MS1 (g : List D → List D → Option D) (fs : Fa) (env : Env) (K : R D → Prop) : R D → Prop := fun r => K (r.bind fun d S1 => match seqOf S1 d with
  | some _ => (fs env S1).bind fun ds S2 => R.of ((seqOf S2 d).bind fun xs => g xs ds) S2
  | none => .bad)
def MS2 (g : List D → List D → Option D) (d : D) (K : R D → Prop) : R (List D) → Prop := fun r => K (r.bind fun ds S2 => R.of ((seqOf S2 d).bind fun xs => g xs ds) S2)
theorem w_methS {g : List D → List D → Option D} (q : W (fo env S) (MS1 g fs env K)) : W (fMethS g fo fs env S) K := q
theorem w_ms1 {g : List D → List D → Option D} (h : seqOf S d = some ds) (q : W (fs env S) (MS2 g d K)) : W (R.ok d S) (MS1 g fs env K) := by
  show K (match seqOf S d with
    | some _ => (fs env S).bind fun ds S2 => R.of ((seqOf S2 d).bind fun xs => g xs ds) S2
    | none => .bad)
  rw [h]
  exact q
theorem w_ms2 {g : List D → List D → Option D} (q : W (R.of ((seqOf S d).bind fun xs => g xs es) S) K) : W (R.ok es S) (MS2 g d K) := q
theorem seq_loc (h : S[m]? = some (.lst ds)) : seqOf S (.loc m) = some ds := by
  show Cell.lst? S[m]? = _
  rw [h]; rfl
theorem flat_ints : ∀ l : List Int, (l.map D.int).all D.flat = true
  | [] => rfl
  | x :: r => by
    show (true && (r.map D.int).all D.flat) = true
    rw [flat_ints r]; rfl
theorem cnt_ints (j : Int) : ∀ l : List Int, (l.map D.int).countP (fun d => eqD d (.int j)) = l.count j
  | [] => rfl
  | x :: r => by
    rw [List.map_cons, List.countP_cons, cnt_ints j r, List.count_cons]
    rfl
theorem any_ints (j : Int) : ∀ l : List Int, (l.map D.int).any (fun d => eqD d (.int j)) = decide (j ∈ l)
  | [] => rfl
  | x :: r => by
    rw [List.map_cons, List.any_cons, any_ints j r]
    show ((x == j) || decide (j ∈ r)) = _
    by_cases h : x = j
    · subst h; simp
    · have h2 : (x == j) = false := beq_false_of_ne h
      have h3 : j ≠ x := fun z => h z.symm
      rw [h2, Bool.false_or]
      simp [h3]
theorem w_cnt1 {l : List Int} {j : Int} (h : seqOf S d = some (l.map D.int)) (q : W (R.ok (.int (l.count j : Nat)) S) K) : W (R.of ((seqOf S d).bind fun xs => cntS xs [.int j]) S) K := by
  refine w_of (d := .int (l.count j : Nat)) ?_ q
  rw [h]
  show (if ((D.int j).flat && (l.map D.int).all D.flat) = true then some (D.int ((l.map D.int).countP fun d => eqD d (.int j) : Nat)) else none) = _
  rw [flat_ints, cnt_ints]
  rfl
theorem fidx_ints (j : Int) : ∀ l : List Int, j ∈ l → (l.map D.int).findIdx? (fun d => eqD d (.int j)) = some (l.idxOf j)
  | [], h => by cases h
  | x :: r, h => by
    rw [List.map_cons, List.findIdx?_cons, List.idxOf_cons]
    show (if (x == j) = true then some 0 else _) = some (bif x == j then 0 else _)
    by_cases hx : x = j
    · subst hx
      rw [beq_self_eq_true]
      rfl
    · have h2 : (x == j) = false := beq_false_of_ne hx
      have h3 : j ∈ r := (List.mem_cons.mp h).elim (fun z => absurd z.symm hx) id
      rw [h2, fidx_ints j r h3]
      rfl
theorem w_idx1 {l : List Int} {j : Int} (h : seqOf S d = some (l.map D.int)) (hj : j ∈ l) (q : W (R.ok (.int (l.idxOf j : Nat)) S) K) : W (R.of ((seqOf S d).bind fun xs => idxS xs [.int j]) S) K := by
  refine w_of (d := .int (l.idxOf j : Nat)) ?_ q
  rw [h]
  show (if ((D.int j).flat && (l.map D.int).all D.flat) = true then ((l.map D.int).findIdx? fun d => eqD d (.int j)).map (fun j : Nat => D.int (j : Int)) else none) = _
  rw [flat_ints, fidx_ints j l hj]
  rfl
theorem w_inI {l : List Int} {j : Int} (h : seqOf S d = some (l.map D.int)) (q : W (R.ok (.bl (decide (j ∈ l))) S) K) : W (R.of (gIn false S (.int j) d) S) K := by
  refine w_of (d := .bl (decide (j ∈ l))) ?_ q
  unfold gIn
  rw [h]
  show (if ((D.int j).flat && (l.map D.int).all D.flat) = true then some (D.bl (if false = true then _ else (l.map D.int).any fun d => eqD d (.int j))) else none) = _
  rw [flat_ints, any_ints]
  rfl
theorem w_niI {l : List Int} {j : Int} (h : seqOf S d = some (l.map D.int)) (q : W (R.ok (.bl (!decide (j ∈ l))) S) K) : W (R.of (gIn true S (.int j) d) S) K := by
  refine w_of (d := .bl (!decide (j ∈ l))) ?_ q
  unfold gIn
  rw [h]
  show (if ((D.int j).flat && (l.map D.int).all D.flat) = true then some (D.bl (if true = true then !((l.map D.int).any fun d => eqD d (.int j)) else _)) else none) = _
  rw [flat_ints, any_ints]
  rfl
theorem w_isN_non (q : W (R.ok (.bl true) S) K) : W (R.of (gIsN false S .non .non) S) K := q
theorem w_noN_non (q : W (R.ok (.bl false) S) K) : W (R.of (gIsN true S .non .non) S) K := q
theorem w_isN_tup (q : W (R.ok (.bl false) S) K) : W (R.of (gIsN false S (.tup ds) .non) S) K := q
theorem w_noN_tup (q : W (R.ok (.bl true) S) K) : W (R.of (gIsN true S (.tup ds) .non) S) K := q
theorem w_isN_lst (q : W (R.ok (.bl false) S) K) : W (R.of (gIsN false S (.lst ds) .non) S) K := q
theorem w_noN_lst (q : W (R.ok (.bl true) S) K) : W (R.of (gIsN true S (.lst ds) .non) S) K := q
theorem w_isN_int {i : Int} (q : W (R.ok (.bl false) S) K) : W (R.of (gIsN false S (.int i) .non) S) K := q
theorem w_noN_int {i : Int} (q : W (R.ok (.bl true) S) K) : W (R.of (gIsN true S (.int i) .non) S) K := q
theorem w_isN_loc (q : W (R.ok (.bl false) S) K) : W (R.of (gIsN false S (.loc m) .non) S) K := q
theorem w_noN_loc (q : W (R.ok (.bl true) S) K) : W (R.of (gIsN true S (.loc m) .non) S) K := q
theorem w_isN_bl {b : Bool} (q : W (R.ok (.bl false) S) K) : W (R.of (gIsN false S (.bl b) .non) S) K := q
theorem w_noN_bl {b : Bool} (q : W (R.ok (.bl true) S) K) : W (R.of (gIsN true S (.bl b) .non) S) K := q
theorem w_isN_str {x : Str} (q : W (R.ok (.bl false) S) K) : W (R.of (gIsN false S (.str x) .non) S) K := q
theorem w_noN_str {x : Str} (q : W (R.ok (.bl true) S) K) : W (R.of (gIsN true S (.str x) .non) S) K := q
/-- a loop that looks for the first item -/
def Fd (b : Bool) (d : D) (I : Env → Prop) (S : Sto) : RS → Prop := fun r => (b = true ∧ r = .fl (.rt d) S) ∨ (b = false ∧ ∃ env', I env' ∧ r = .fl (.nx env') S)
theorem ixmapN {α : Type} {enc : α → D} {l : List α} {k : Nat} (h1 : (k : Int) < (l.length : Int)) : ∃ x, x ∈ l ∧ l[k]? = some x ∧ atI (l.map enc) (k : Int) = some (enc x) := by
  obtain ⟨x, h2, h3, h4⟩ := ixmap (enc := enc) (l := l) (i := (k : Int)) (by omega) h1
  exact ⟨x, h2, by rw [Int.toNat_natCast] at h3; exact h3, h4⟩
theorem w_ixLn {α : Type} {enc : α → D} {l : List α} {k : Nat} (h1 : (k : Int) < (l.length : Int)) (q : ∀ x, x ∈ l → l[k]? = some x → (∀ d, l.getD k d = x) → W (R.ok (enc x) S) K) : W (R.of (gIx S (.lst (l.map enc)) (.int (k : Int))) S) K := by
  obtain ⟨x, hx, hg, e⟩ := ixmapN (enc := enc) h1
  exact w_of (show gIx S (.lst (l.map enc)) (.int (k : Int)) = some (enc x) from e) (q x hx hg fun d => by rw [List.getD_eq_getElem?_getD, hg]; rfl)
theorem w_ixLz {α : Type} {enc : α → D} {l : List α} {i : Int} (h0 : 0 ≤ i) (h1 : i < (l.length : Int)) (q : ∀ x, x ∈ l → l[i.toNat]? = some x → (∀ d, l.getD i.toNat d = x) → W (R.ok (enc x) S) K) : W (R.of (gIx S (.lst (l.map enc)) (.int i)) S) K :=
  w_ixL h0 h1 fun x hx hg => q x hx hg fun d => by rw [List.getD_eq_getElem?_getD, hg]; rfl
theorem w_ixTn {α : Type} {enc : α → D} {l : List α} {k : Nat} (h1 : (k : Int) < (l.length : Int)) (q : ∀ x, x ∈ l → l[k]? = some x → (∀ d, l.getD k d = x) → W (R.ok (enc x) S) K) : W (R.of (gIx S (.tup (l.map enc)) (.int (k : Int))) S) K := by
  obtain ⟨x, hx, hg, e⟩ := ixmapN (enc := enc) h1
  exact w_of (show gIx S (.tup (l.map enc)) (.int (k : Int)) = some (enc x) from e) (q x hx hg fun d => by rw [List.getD_eq_getElem?_getD, hg]; rfl)
theorem w_ixTz {α : Type} {enc : α → D} {l : List α} {i : Int} (h0 : 0 ≤ i) (h1 : i < (l.length : Int)) (q : ∀ x, x ∈ l → l[i.toNat]? = some x → (∀ d, l.getD i.toNat d = x) → W (R.ok (enc x) S) K) : W (R.of (gIx S (.tup (l.map enc)) (.int i)) S) K :=
  w_ixT h0 h1 fun x hx hg => q x hx hg fun d => by rw [List.getD_eq_getElem?_getD, hg]; rfl
/-- xs[i] = v in a cell of encoded items -/
theorem w_siM {α : Type} {enc : α → D} {l : List α} {x : α} {i : Int} {S' : Sto} (hc : S[m]? = some (.lst (l.map enc))) (hx : d = enc x) (h0 : 0 ≤ i) (h1 : i < (l.length : Int)) (hs : S.set m (.lst ((l.set i.toNat x).map enc)) = S') (q : W (RS.fl (.nx env) S') KS) :
    W (R.ok (.int i) S) (SI3 d (.loc m) env KS) := by
  subst hx
  refine w_si3 (k := i.toNat) hc (by omega) (by rw [List.length_map]; omega) ?_ q
  rw [← hs, List.map_set]
end
end FL
set_option maxRecDepth 100000
set_option maxHeartbeats 2000000
/-! FLL: a def whose first k new cells stay, and whose other new cells are forgotten -/
namespace FL
open PySem PySem.Spec PyProof.Rows L2
section
variable {P : Program} {w : World} {K : PySem.W.Frag} {mg : Str → Option Value} {base : Heap} {f : Addr} {fd : FuncData}
/-- S2 (S1's cells and some new ones) may stand for S3 -/
def ShrK (S1 S2 S3 : Sto) : Prop := S1.length ≤ S2.length ∧ S2.length ≤ S3.length ∧ ∀ (m : Nat) (c : Cell), S2[m]? = some c → S3[m]? = some c ∧ c.plain S2.length = true
theorem ShrK.view {v v' : Vw} {S2 : Sto} (e : Ext v v') (o' : v'.Ok K) (h : ShrK v.S S2 v'.S) : Ext v (v'.cut S2) ∧ (v'.cut S2).Ok K := by
  obtain ⟨h1, hl, h3⟩ := h
  have ex : Ext v (v'.cut S2) := ⟨h1, e.ι, fun m q1 q2 => e.new m q1 (Nat.lt_of_lt_of_le (show m < S2.length from q2) hl), e.Z, e.keep, e.live⟩
  refine ⟨ex, fun i j hi hj q => o'.inj i j (Nat.lt_of_lt_of_le hi hl) (Nat.lt_of_lt_of_le hj hl) q, o'.hz, fun m hm => o'.hzl m (Nat.lt_of_lt_of_le hm hl), fun m c q => ?_⟩
  obtain ⟨q1, q2⟩ := h3 m c q
  exact (o'.cell m c q1).cut hl q2
def NicerK (S1 : Sto) (r0 r : R D) : Prop := match r with
  | .ok d S2 => ∃ d0 S3, r0 = .ok d0 S3 ∧ ShrK S1 S2 S3 ∧ Fin1 S2.length S3 d0 d
  | .exc C fs S2 => False
  | .bad => True
theorem NicerK.post {v : Vw} {r0 r : R D} {P : V → Hp → Prop} {E : XK} (h : NicerK v.S r0 r)
    (p : Post K v r (fun w' d => ∀ u, Rep K [] w' u d → P u w'.H) (fun w' C fs => ∀ dA, ExA K w' dA fs → E (.ref C) dA w'.H)) :
    Post K v r0 (fun w' d => ∀ u, Rep K [] w' u d → P u w'.H) (fun w' C fs => ∀ dA, ExA K w' dA fs → E (.ref C) dA w'.H) := by
  cases r with
  | bad => exact p.elim
  | ok d S2 =>
    obtain ⟨d0, S3, e, sh, fi⟩ := h
    rw [e]
    intro v' ex hs o' u ru
    subst hs
    obtain ⟨e2, o2⟩ := ShrK.view ex o' sh
    exact p (v'.cut S2) e2 rfl o2 u (fin1_rep o' sh.2.1 fi ru)
  | exc C fs S2 => exact h.elim
def fzKR (k : Nat) (S : Sto) : R D → R D
  | .ok d S3 => if (decide (S.length + k ≤ S3.length) && (S3.take (S.length + k)).all (Cell.plain (S.length + k))) = true then (match frzV (S.length + k) S3 6 d with
    | some e => .ok e (S3.take (S.length + k))
    | none => .bad) else .bad
  | _ => .bad
def fzK (k : Nat) (f : Fn) : Fn := fun ds S => fzKR k S (f ds S)
/-- a statement that the law never reaches -/
def sBad : SF := fun _ _ => .bad
end
section
variable {S : Sto} {K : R D → Prop} {ds : List D} {d e : D}
def FzK (k : Nat) (S : Sto) (K : R D → Prop) : R D → Prop := fun r => K (fzKR k S r)
end
end FL
set_option maxRecDepth 100000
set_option maxHeartbeats 2000000
/-! FLM: x[i] op= e -/
namespace FL
open PySem PySem.Spec PyProof.Rows L2
section
variable {X : Cx} {P : Pn} {W : WX} {o i e : Expr} {fo fi fe : F} {pos tpos : Pos}
/-- an item of a list that is there, the place not negative -/
def rGetL (K : PySem.W.Frag) : V → V → Hp → VK → Prop := fun x y H Q => ∃ p xs i v, x = .ref p ∧ y = .int i ∧ 0 ≤ i ∧ SqL K H p xs ∧ atI xs i = some v ∧ Q v H
/-- x[i] += e, ints in a list of the store -/
def sAugI (f : Int → Int → Int) (fo fi fe : F) : SF := fun env S => (fo env S).bindS env fun x S1 => (fi env S1).bindS env fun j S2 => match locL S2 x, j with
  | some (m, xs), .int k => if 0 ≤ k then match atI xs k with
    | some (.int a) => (fe env S2).bindS env fun d S3 => match d with
      | .int b => match setAt (.int (f a b)) x (.int k) S3 with
        | some S4 => .fl (.nx env) S4
        | none => .bad
      | _ => .bad
    | _ => .bad
    else .bad
  | _, _ => .bad
end
/-! ### tuple + tuple, tuple[lo:hi] -/
section
variable {X : Cx} {P : Pn} {W : WX} {K : PySem.W.Frag} {a : Expr} {fa : F} {pos : Pos}
def rCatZ (K : PySem.W.Frag) : R2 := fun x y H Q => ∃ a b xs ys, x = .ref a ∧ y = .ref b ∧ SqT K H a xs ∧ SqT K H b ys ∧ xs.length + ys.length ≤ sizeLine ∧
  (xs = [] → Q (.ref b) H) ∧ (xs ≠ [] → ys = [] → Q (.ref a) H) ∧ (xs ≠ [] → ys ≠ [] → ∀ p (ob : Obj), H p = none → ob.dict = none → Q (.ref p) (upd H p (.frz ob (.tup (xs ++ ys)))))
def gAddT : Sto → D → D → Option D := fun _ d e => match d, e with
  | .tup xs, .tup ys => if xs.length + ys.length ≤ sizeLine then some (.tup (xs ++ ys)) else none
  | _, _ => none
def rSlZ (K : PySem.W.Frag) : V → Option Int → Option Int → Hp → VK → Prop := fun x lo hi H Q => ∃ a xs, x = .ref a ∧ SqT K H a xs ∧
  (HT.sIx xs.length 0 lo = 0 ∧ HT.sIx xs.length xs.length hi = xs.length → Q (.ref a) H) ∧ (¬ (HT.sIx xs.length 0 lo = 0 ∧ HT.sIx xs.length xs.length hi = xs.length) → ∀ p (ob : Obj), H p = none → ob.dict = none → Q (.ref p) (upd H p (.frz ob (.tup (cutV xs lo hi)))))
def gSlT : Sto → D → Option Int → Option Int → Option D := fun _ d l h => match d with
  | .tup ds => some (.tup (cutD ds l h))
  | _ => none
end
/-! ### the run's rules -/
section
variable {S : Sto} {K : R D → Prop} {KS : RS → Prop} {env : Env}
end
/-! ### enumerate over a list value: each item in a new pair that is frozen at once -/
def IteL (K : PySem.W.Frag) (a : Addr) : It :=
  ⟨fun i H => ∃ (xs : List V) (x : V), SqL K H a xs ∧ xs[i]? = some x, fun i H v H' => ∃ T x, ∃ ob : Obj, ob.dict = none ∧ v = .ref T ∧ H T = none ∧ H' = upd H T (.frz ob (.tup [.int (i : Nat), x])) ∧ ∀ xs, SqL K H a xs → xs[i]? = some x, fun i H => ∃ xs : List V, SqL K H a xs ∧ xs.length ≤ i⟩
def iEnumL (K : PySem.W.Frag) (ta : TA) : TI := fun σ H R => ta σ H fun vs H1 => ∃ a xs, vs = [.ref a] ∧ SqL K H1 a xs ∧ R (IteL K a) H1
def srcEnL (S : Sto) : List D → Option Src
  | [.lst ds] => some (.fix (enumD 0 ds))
  | _ => none
def iEnL (f : Fa) : Fi := fun env S => (f env S).bind fun ds S1 => R.of (srcEnL S1 ds) S1
section
variable {K : PySem.W.Frag} {P : Pn} {X : Cx} {W : WX} {e : Expr} {fs : Fa} {p pos tpos : Pos} {elts : List Expr} {kk : Nat}
end
section
variable {S : Sto} {env : Env}
end
end FL
set_option maxRecDepth 100000
set_option maxHeartbeats 2000000
/-! FLN: zip of lists and tuples in any mixture, reversed, all, divmod, isinstance with a tuple of classes, is of bools -/
namespace FL
open PySem PySem.Spec PyProof.Rows L2
/-! ### zip -/
/-- a list (true) or a tuple at a -/
def SqE (K : PySem.W.Frag) : Bool → Hp → Addr → List V → Prop
  | true => SqL K
  | false => SqT K
def ItE : Bool → Heap → Addr → Addr → Nat → Prop
  | true => Heap.IsListIter
  | false => Heap.IsTupleIter
def IsE : Bool → Heap → Addr → Array Value → Prop
  | true => Heap.IsList
  | false => Heap.IsTuple
def obE : Bool → Addr → Obj
  | true, a => { cls := .type "list_iterator", data := .fields #[.ref a, .int 0 0] }
  | false, a => { cls := .type "tuple_iterator", data := .fields #[.ref a, .int 0 0] }
theorem beginsE : ∀ (b : Bool) (a : Addr) (its : Array Value), Begins (.ref a) (obE b a) fun h => IsE b h a its
  | true, a, its => begins_list a its
  | false, a, its => begins_tuple a its
theorem drawsE {prog : Program} {w : World} {A : Around} (hh : A.handled = none) : ∀ (b : Bool) (it a : Addr), a ≠ it → ∀ its : Array Value,
    Draws prog w A it [it, a] its.size (fun i v => its[i]? = some v) (fun i h => ItE b h it a i ∧ IsE b h a its)
  | true, it, a, hne, its => Draws.list hh it a hne its
  | false, it, a, hne, its => Draws.tuple hh it a hne its
theorem itE_keep {h h' : Heap} {it a : Addr} {i : Nat} (k : ∀ o, h.get? it = some o → h'.get? it = some o) : ∀ {b : Bool}, ItE b h it a i → ItE b h' it a i
  | true, st => Heap.IsListIter.at st k
  | false, st => Heap.IsTupleIter.at st k
theorem itE_obj {h : Heap} {it a : Addr} {i : Nat} : ∀ {b : Bool}, ItE b h it a i → ∃ o, h.get? it = some o ∧ ∀ v, o.data ≠ .cell v
  | true, ⟨o, e, _, d⟩ => ⟨o, e, fun v q => by rw [d] at q; cases q⟩
  | false, ⟨o, e, _, d⟩ => ⟨o, e, fun v q => by rw [d] at q; cases q⟩
theorem itE_new {h : Heap} {it a : Addr} : ∀ {b : Bool}, h.get? it = some (obE b a) → ItE b h it a 0
  | true, e => ⟨_, e, rfl, rfl⟩
  | false, e => ⟨_, e, rfl, rfl⟩
theorem isE_lt {h : Heap} {a : Addr} {its : Array Value} : ∀ {b : Bool}, IsE b h a its → a < h.objs.size
  | true, ⟨_, e, _⟩ => Heap.lt_size e
  | false, ⟨_, e, _⟩ => Heap.lt_size e
theorem isE_ne {h : Heap} {a it : Addr} {its : Array Value} {i : Nat} : ∀ {b : Bool}, IsE b h a its → ItE b h it a i → a ≠ it
  | true, ⟨o, e, hc, _⟩, ⟨o2, e2, hc2, _⟩, z => by
    subst z
    rw [e] at e2
    cases e2
    rw [hc] at hc2
    exact absurd (Value.type.inj hc2) (by decide)
  | false, ⟨o, e, hc, _⟩, ⟨o2, e2, hc2, _⟩, z => by
    subst z
    rw [e] at e2
    cases e2
    rw [hc] at hc2
    exact absurd (Value.type.inj hc2) (by decide)
section
variable {X : Cx} {pins : List (Addr × Obj)} {σ : L2.St} {H : Hp} {s : Shared} {a : Addr} {xs ys : List V}
theorem invE (I : Inv X pins σ H s) : ∀ {b : Bool}, SqE X.K b H a xs → ∃ its : List Value, Vals xs its ∧ IsE b s.heap a its.toArray
  | true, q => by
    obtain ⟨its, r, p, _⟩ := I.list q
    exact ⟨its, r, p.isList⟩
  | false, q => by
    obtain ⟨its, r, p, _⟩ := I.tuple q
    exact ⟨its, r, p⟩
theorem injE (I : Inv X pins σ H s) : ∀ {b : Bool}, SqE X.K b H a xs → SqE X.K b H a ys → xs = ys
  | true, q, q2 => I.list_inj q q2
  | false, q, q2 => I.tuple_inj q q2
end
/-- the two sequences as they stand at each turn; each pair in a new tuple that is frozen at once -/
def ItzE (K : PySem.W.Frag) (b c : Bool) (a a2 : Addr) : It :=
  ⟨fun i H => ∃ (xs ys : List V) (x y : V), SqE K b H a xs ∧ SqE K c H a2 ys ∧ xs[i]? = some x ∧ ys[i]? = some y,
    fun i H v H' => ∃ T x y, ∃ ob : Obj, ob.dict = none ∧ v = .ref T ∧ H T = none ∧ H' = upd H T (.frz ob (.tup [x, y])) ∧ (∀ xs, SqE K b H a xs → xs[i]? = some x) ∧ ∀ ys, SqE K c H a2 ys → ys[i]? = some y,
    fun i H => ∃ xs ys : List V, SqE K b H a xs ∧ SqE K c H a2 ys ∧ i ≤ xs.length ∧ i ≤ ys.length ∧ (i = xs.length ∨ i = ys.length)⟩
theorem turn_zipE {P : Program} {w : World} {K : PySem.W.Frag} {elts : List Expr} {kk : Nat} {tpos : Pos} {b c : Bool} {a a2 z TI TO i1 i2 : Addr} (S : ZipSep2 z TI TO i1 i2 [i1, a] [i2, a2]) :
    Turn P w K (.Tuple elts kk tpos) (ItzE K b c a a2) [z, TI, TO, i1, i2] z (fun i h => IsZip h z TI TO .none ∧ IsTupOf2 h TI (.ref i1) (.ref i2) ∧ (∃ x y, IsTupOf2 h TO x y) ∧ ItE b h i1 a i ∧ ItE c h i2 a2 i) where
  mem := by simp
  obj := fun i h st e he => by
    obtain ⟨hz, hTI, ⟨x, y, hTO⟩, h1, h2⟩ := st
    have he : e = z ∨ e = TI ∨ e = TO ∨ e = i1 ∨ e = i2 := by simpa using he
    rcases he with rfl | rfl | rfl | rfl | rfl
    · exact ⟨_, hz, fun v q => nomatch q⟩
    · exact ⟨_, hTI, fun v q => nomatch q⟩
    · exact ⟨_, hTO, fun v q => nomatch q⟩
    · exact itE_obj h1
    · exact itE_obj h2
  keep := fun i h h' st k => by
    obtain ⟨hz, hTI, ⟨x, y, hTO⟩, h1, h2⟩ := st
    exact ⟨k z (by simp) _ hz, k TI (by simp) _ hTI, ⟨x, y, k TO (by simp) _ hTO⟩, itE_keep (fun o q => k i1 (by simp) o q) h1, itE_keep (fun o q => k i2 (by simp) o q) h2⟩
  item := by
    intro X hP hw hK hc i pins s σ H E I hf st hg
    subst hP hw hK
    obtain ⟨hz, hTI, ⟨x0, y0, hTO⟩, h1, h2⟩ := st
    obtain ⟨xs, ys, x, y, hqx, hqy, hx, hy⟩ := hg
    obtain ⟨its, rv, p1⟩ := invE I hqx
    obtain ⟨its2, rv2, p2⟩ := invE I hqy
    obtain ⟨u, hu, ru⟩ := rv.get hx
    obtain ⟨u2, hu2, ru2⟩ := rv2.get hy
    have na1 := isE_ne p1 h1
    have na2 := isE_ne p2 h2
    have hzl : z < s.heap.objs.size := Heap.lt_size hz
    have hh : X.A.in1.handled = none := I.ok.hd hc
    have D1 := drawsE (prog := X.prog) (w := X.w) hh b i1 a na1 its.toArray
    have D2 := drawsE (prog := X.prog) (w := X.w) hh c i2 a2 na2 its2.toArray
    have l1 : i < its.toArray.size := by
      rw [List.size_toArray]
      exact (List.getElem?_eq_some_iff.mp hu).1
    have l2 : i < its2.toArray.size := by
      rw [List.size_toArray]
      exact (List.getElem?_eq_some_iff.mp hu2).1
    refine wpAny_pyNext_zipD2_item S D1 D2 hz hTI hTO ⟨h1, p1⟩ ⟨h2, p2⟩ l1 l2 fun x1 x2 h' tk P1 P2 z' TO' s1' s2' hT hsz hk => ?_
    have e1 : x1 = u := by
      have : its.toArray[i]? = some u := by simpa using hu
      rw [this] at P1
      exact (Option.some.inj P1).symm
    have e2 : x2 = u2 := by
      have : its2.toArray[i]? = some u2 := by simpa using hu2
      rw [this] at P2
      exact (Option.some.inj P2).symm
    subst e1 e2
    refine ⟨_, rfl, wpAny_letOwnedTupleGo_zip (s := { s with heap := h', toks := tk }) z' fun h'' z'' sb => ?_⟩
    have hT2 : h''.get? s.heap.objs.size = some { cls := .type "tuple", data := .seq #[x1, x2] } := (sb.2 _ (Nat.ne_of_gt hzl)).trans hT
    have new : ObjOk X.prog X.w (upd H s.heap.objs.size (.frz { cls := .type "tuple", data := .seq #[x1, x2] } (.tup [x, y]))) h'' s.heap.objs.size (.frz { cls := .type "tuple", data := .seq #[x1, x2] } (.tup [x, y])) :=
      ⟨hT2, by show 2 ≤ sizeLine; decide, [x1, x2], .cons ru (.cons ru2 .nil), ⟨_, hT2, rfl, _, rfl⟩⟩
    have I1 : Inv X pins σ (upd H s.heap.objs.size (.frz { cls := .type "tuple", data := .seq #[x1, x2] } (.tup [x, y]))) { s with heap := h'', toks := tk } :=
      I.turnedNew (ch := [z, TI, TO, i1, i2]) (fun e o hb q => (sb.2 e (fun q' => hb (by simp [q']))).trans (hk e o (fun q' => hb (by simp [q'])) (fun q' => hb (by simp [q'])) (fun q' => hb (by simp [q'])) (fun q' => hb (by simp [q'])) q)) hf (Nat.le_refl _) new
    refine ⟨.ref s.heap.objs.size, _, I1, rfl, ⟨_, x, y, _, rfl, rfl, I.hok.fresh (Nat.le_refl _), rfl, fun l hl => by rw [injE I hl hqx]; exact hx, fun l hl => by rw [injE I hl hqy]; exact hy⟩, ⟨z'', ?_, ⟨x1, x2, ?_⟩, ?_, ?_⟩, fun e he => ?_⟩
    · exact (sb.2 _ S.TIz).trans (hk _ _ S.TIz S.TITO S.TIi1 S.TIi2 hTI)
    · exact (sb.2 _ S.TOz).trans TO'
    · exact itE_keep (fun o q => (sb.2 _ (Ne.symm S.zi1)).trans q) s1'.1
    · exact itE_keep (fun o q => (sb.2 _ (Ne.symm S.zi2)).trans q) s2'.1
    · have hlt : e < s.heap.objs.size := by
        have he : e = z ∨ e = TI ∨ e = TO ∨ e = i1 ∨ e = i2 := by simpa using he
        rcases he with rfl | rfl | rfl | rfl | rfl
        · exact hzl
        · exact Heap.lt_size hTI
        · exact Heap.lt_size hTO
        · obtain ⟨_, q, _⟩ := itE_obj h1; exact Heap.lt_size q
        · obtain ⟨_, q, _⟩ := itE_obj h2; exact Heap.lt_size q
      rw [upd_ne (Nat.ne_of_lt hlt)]
      exact (hf e he).1
  done := by
    intro X hP hw hK hc i pins s σ H E I hf st hg
    subst hP hw hK
    obtain ⟨hz, hTI, ⟨x0, y0, hTO⟩, h1, h2⟩ := st
    obtain ⟨xs, ys, hqx, hqy, le1, le2, hend⟩ := hg
    obtain ⟨its, rv, p1⟩ := invE I hqx
    obtain ⟨its2, rv2, p2⟩ := invE I hqy
    have hh : X.A.in1.handled = none := I.ok.hd hc
    have D1 := drawsE (prog := X.prog) (w := X.w) hh b i1 a (isE_ne p1 h1) its.toArray
    have D2 := drawsE (prog := X.prog) (w := X.w) hh c i2 a2 (isE_ne p2 h2) its2.toArray
    have n1 : its.toArray.size = xs.length := by rw [List.size_toArray, rv.length]
    have n2 : its2.toArray.size = ys.length := by rw [List.size_toArray, rv2.length]
    exact wpAny_pyNext_zipD2_end S D1 D2 hz hTI hTO ⟨h1, p1⟩ ⟨h2, p2⟩ (by omega) (by omega) (by omega) fun h' tk hk => ⟨rfl, I.turnedL (t' := tk) (ch := [z, TI, TO, i1, i2]) (fun e o hb q =>
      hk e o (fun q' => hb (by simp [q'])) (fun q' => hb (by simp [q'])) (fun q' => hb (by simp [q'])) (fun q' => hb (by simp [q'])) q) hf⟩
  self := fun A i s Q E st h => wpAny_pyIter_zip st.1 h
def iZipE (K : PySem.W.Frag) (ta : TA) : TI := fun σ H R => ta σ H fun vs H1 => ∃ b c a a2 xs ys, vs = [.ref a, .ref a2] ∧ SqE K b H1 a xs ∧ SqE K c H1 a2 ys ∧ R (ItzE K b c a a2) H1
theorem pi_zipE {X : Cx} {e e2 : Expr} {ta : TA} {p pos tpos : Pos} {elts : List Expr} {kk : Nat} (hg : Gl X "zip") (hm : X.mg "zip" = none) (ha : PA X [e, e2] ta)
    (hs : starEach [e, e2] X.env = (false, eval e X.env) :: starEach [e2] X.env := by rfl) (hpl : (backTo pos (starEach [e2] X.env)).any (·.1) = false := by rfl) :
    PI X (.Tuple elts kk tpos) (.Call (.Name "zip" p) [e, e2] [] pos) (iZipE X.K ta) := by
  refine ⟨fun pins s σ H R I h => ?_⟩
  refine Call_ (ld_blt I hg hm PyProof.Rows.boot_zip (PyProof.Rows.callWith_type1 (thn (ha.run pos pins s σ H _ I h) fun us s1 ⟨vs, H1, I1, r1, q1⟩ => ?_) hs hpl))
  obtain ⟨b, c, a, a2, xs, ys, ex, hqx, hqy, q⟩ := q1
  subst ex
  obtain ⟨u1, u2, rfl, r, r'⟩ := vals2 r1
  obtain rfl : u1 = Value.ref a := r
  obtain rfl : u2 = Value.ref a2 := r'
  obtain ⟨its, rv, p1⟩ := invE I1 hqx
  obtain ⟨its2, rv2, p2⟩ := invE I1 hqy
  refine zip_begins2 (beginsE b a its.toArray) (beginsE c a2 its2.toArray) p1 p2 fun h' hz hTI hTO g1 g2 hsz hk => wpAny_pyIter_zip hz ?_
  have I2 : Inv X pins σ H1 { s1 with heap := h' } := I1.kept (t' := s1.toks) hk
  have sep := zip_sep2 (N := s1.heap.objs.size) (fp1 := [a]) (fp2 := [a2]) (fun x hx => by rw [List.mem_singleton.mp hx]; exact isE_lt p1) fun x hx => by rw [List.mem_singleton.mp hx]; exact isE_lt p2
  refine ⟨s1.heap.objs.size + 4, [s1.heap.objs.size + 4, s1.heap.objs.size + 2, s1.heap.objs.size + 3, s1.heap.objs.size, s1.heap.objs.size + 1], _, _, H1, rfl, I2, turn_zipE sep, ⟨hz, hTI, ⟨_, _, hTO⟩, itE_new g1, itE_new g2⟩, fun x hx => ?_, q⟩
  have hle : s1.heap.objs.size ≤ x := by
    have hx : x = s1.heap.objs.size + 4 ∨ x = s1.heap.objs.size + 2 ∨ x = s1.heap.objs.size + 3 ∨ x = s1.heap.objs.size ∨ x = s1.heap.objs.size + 1 := by simpa using hx
    rcases hx with rfl | rfl | rfl | rfl | rfl <;> first | exact Nat.le_refl _ | exact Nat.le_add_right _ _
  exact I1.fpOk hle (I1.hok.fresh hle)
/-! the data -/
/-- a sequence that can be zipped -/
def srcSq (S : Sto) : D → Option Src
  | .tup ds => some (.fix ds)
  | .lst ds => some (.fix ds)
  | .fls ds => some (.fix ds)
  | .loc m => (Cell.lst? S[m]?).map fun _ => .cell m
  | _ => none
def srcZip (S : Sto) : List D → Option Src
  | [d, e] => match srcSq S d, srcSq S e with
    | some s, some t => some (.zip s t)
    | _, _ => none
  | _ => none
def iZip (f : Fa) : Fi := fun env S => (f env S).bind fun ds S1 => R.of (srcZip S1 ds) S1
section
variable {K : PySem.W.Frag} {P : Pn} {X : Cx} {W : WX} {e e2 : Expr} {fs : Fa} {p pos tpos : Pos} {elts : List Expr} {kk : Nat}
/-- what a source that can be zipped stands for: at every later view a sequence at a, of which it tells the items -/
def SqS (K : PySem.W.Frag) (P : Pn) (w : Vw) (b : Bool) (a : Addr) (s : Src) : Prop := ∀ w', Ext w w' → w'.Ok K → ∀ i, s.next w'.S i ≠ none → ∃ xs ds, SqE K b w'.H a xs ∧ Reps K P w' xs ds ∧ ∀ j, s.next w'.S j = some ds[j]?
theorem sq_src {w : Vw} {v : V} {d : D} {s : Src} (o : w.Ok K) (r : Rep K P w v d) (h : srcSq w.S d = some s) : ∃ b a xs, v = .ref a ∧ SqE K b w.H a xs ∧ SqS K P w b a s := by
  cases r with
  | tup h2 r => cases h; exact ⟨false, _, _, rfl, h2.sq, fun w' e o' i _ => ⟨_, _, (e.tup h2).sq, r.to e, fun j => rfl⟩⟩
  | lst h2 r => cases h; exact ⟨true, _, _, rfl, h2.sq, fun w' e o' i _ => ⟨_, _, (e.lstV h2).sq, r.to e, fun j => rfl⟩⟩
  | fls h2 r => cases h; exact ⟨true, _, _, rfl, h2.sq, fun w' e o' i _ => ⟨_, _, (e.lst h2).sq, r.to e, fun j => rfl⟩⟩
  | @loc m hm =>
    have h : (Cell.lst? w.S[m]?).map (fun _ => Src.cell m) = some s := h
    cases g : Cell.lst? w.S[m]? with
    | none => rw [g] at h; cases h
    | some ds =>
      rw [g] at h
      cases h
      obtain ⟨xs, h1, h2⟩ := o.cell m _ (lst?_some g)
      refine ⟨true, _, xs, rfl, .inl (.inl h1), fun w' e o' i hi => ?_⟩
      have hi : (Cell.lst? w'.S[m]?).map (fun ds => ds[i]?) ≠ none := hi
      cases g' : Cell.lst? w'.S[m]? with
      | none => rw [g'] at hi; exact absurd rfl hi
      | some es =>
        obtain ⟨ys, k1, k2⟩ := o'.cell m _ (lst?_some g')
        rw [e.ι m hm] at k1
        refine ⟨ys, es, .inl (.inl k1), k2.ext (Ext.refl w') (fun q hq => by cases hq), fun j => ?_⟩
        show (Cell.lst? w'.S[m]?).map (fun ds => ds[j]?) = _
        rw [g']
        rfl
  | _ => cases h
theorem walk_zip {w : Vw} {b c : Bool} {a a2 : Addr} {s t : Src} (h1 : SqS K P w b a s) (h2 : SqS K P w c a2 t) : WalksS K P w (ItzE K b c a a2) (.zip s t) := by
  intro w' e o i
  have nn : ∀ q, (Src.zip s t).next w'.S i = some q → s.next w'.S i ≠ none ∧ t.next w'.S i ≠ none := fun q hq => by
    refine ⟨fun z => ?_, fun z => ?_⟩
    · unfold Src.next at hq
      rw [z] at hq
      cases hq
    · unfold Src.next at hq
      rw [z] at hq
      cases g : s.next w'.S i with
      | none => rw [g] at hq; cases hq
      | some x => rw [g] at hq; cases x <;> cases hq
  refine ⟨fun z => ?_, fun d z => ?_⟩
  · obtain ⟨n1, n2⟩ := nn _ z
    obtain ⟨xs, ds, q1, r1, f1⟩ := h1 w' e o i n1
    obtain ⟨ys, es, q2, r2, f2⟩ := h2 w' e o i n2
    refine ⟨xs, ys, q1, q2, ?_⟩
    unfold Src.next at z
    rw [f1 i, f2 i] at z
    have l1 := r1.length
    have l2 := r2.length
    cases i with
    | zero =>
      refine ⟨Nat.zero_le _, Nat.zero_le _, ?_⟩
      cases g1 : ds[0]? with
      | none => have := List.getElem?_eq_none_iff.mp g1; exact .inl (by omega)
      | some x =>
        cases g2 : es[0]? with
        | none => have := List.getElem?_eq_none_iff.mp g2; exact .inr (by omega)
        | some y => rw [g1, g2] at z; cases z
    | succ j =>
      have m1 : ∃ x, ds[j]? = some x := by
        cases g : ds[j]? with
        | some x => exact ⟨x, rfl⟩
        | none =>
          have h3 : ds[j + 1]? = none := by rw [List.getElem?_eq_none_iff] at g ⊢; omega
          rw [h3] at z
          have z : (match s.next w'.S j, t.next w'.S j with
            | some (some _), some (some _) => some none
            | _, _ => none) = (some none : Option (Option D)) := by cases g2 : es[j + 1]? <;> rw [g2] at z <;> exact z
          rw [f1 j, g] at z
          cases z
      have m2 : ∃ x, es[j]? = some x := by
        cases g : es[j]? with
        | some x => exact ⟨x, rfl⟩
        | none =>
          have h3 : es[j + 1]? = none := by rw [List.getElem?_eq_none_iff] at g ⊢; omega
          rw [h3] at z
          have z : (match s.next w'.S j, t.next w'.S j with
            | some (some _), some (some _) => some none
            | _, _ => none) = (some none : Option (Option D)) := by cases g2 : ds[j + 1]? <;> rw [g2] at z <;> exact z
          rw [f2 j, g] at z
          cases q : s.next w'.S j with
          | none => rw [q] at z; cases z
          | some y => rw [q] at z; cases y <;> cases z
      obtain ⟨x, hx⟩ := m1
      obtain ⟨y, hy⟩ := m2
      have b1 := (List.getElem?_eq_some_iff.mp hx).1
      have b2 := (List.getElem?_eq_some_iff.mp hy).1
      refine ⟨by omega, by omega, ?_⟩
      cases g1 : ds[j + 1]? with
      | none => have := List.getElem?_eq_none_iff.mp g1; exact .inl (by omega)
      | some x =>
        cases g2 : es[j + 1]? with
        | none => have := List.getElem?_eq_none_iff.mp g2; exact .inr (by omega)
        | some y => rw [g1, g2] at z; cases z
  · obtain ⟨n1, n2⟩ := nn _ z
    obtain ⟨xs, ds, q1, r1, f1⟩ := h1 w' e o i n1
    obtain ⟨ys, es, q2, r2, f2⟩ := h2 w' e o i n2
    unfold Src.next at z
    rw [f1 i, f2 i] at z
    have zz : ∃ x y, ds[i]? = some x ∧ es[i]? = some y ∧ d = .tup [x, y] := by
      cases g1 : ds[i]? with
      | none =>
        rw [g1] at z
        exfalso
        cases i with
        | zero => cases g2 : es[0]? <;> rw [g2] at z <;> cases z
        | succ j =>
          have z : (match s.next w'.S j, t.next w'.S j with
            | some (some _), some (some _) => some none
            | _, _ => none) = (some (some d) : Option (Option D)) := by cases g2 : es[j + 1]? <;> rw [g2] at z <;> exact z
          rw [f1 j, f2 j] at z
          cases g3 : ds[j]? with
          | none => rw [g3] at z; cases z
          | some _ => rw [g3] at z; cases g4 : es[j]? <;> rw [g4] at z <;> cases z
      | some x =>
        cases g2 : es[i]? with
        | none =>
          rw [g1, g2] at z
          exfalso
          cases i with
          | zero => cases z
          | succ j =>
            have z : (match s.next w'.S j, t.next w'.S j with
              | some (some _), some (some _) => some none
              | _, _ => none) = (some (some d) : Option (Option D)) := z
            rw [f1 j, f2 j] at z
            cases g3 : ds[j]? with
            | none => rw [g3] at z; cases z
            | some _ => rw [g3] at z; cases g4 : es[j]? <;> rw [g4] at z <;> cases z
        | some y =>
          rw [g1, g2] at z
          cases z
          exact ⟨x, y, rfl, rfl, rfl⟩
    obtain ⟨x, y, hx, hy, rfl⟩ := zz
    obtain ⟨v, k1, k2⟩ := r1.get hx
    obtain ⟨v2, k3, k4⟩ := r2.get hy
    refine ⟨⟨xs, ys, v, v2, q1, q2, k1, k3⟩, fun x' H' yy => ?_⟩
    obtain ⟨T, x0, y0, ob, hd, rfl, hT, rfl, hy1, hy2⟩ := yy
    have t1 := hy1 xs q1
    have t2 := hy2 ys q2
    rw [k1] at t1
    rw [k3] at t2
    cases t1
    cases t2
    exact ⟨w'.nu T (.frz ob (.tup [v, v2])), rfl, Vw.nu_ext hT, rfl, o.nu hT, Rep.newT hd o hT (.cons k2 (.cons k4 .nil))⟩
theorem fi_zip (hg : Gl X "zip") (hm : X.mg "zip" = none) (ha : FA X P W [e, e2] fs) (hs : starEach [e, e2] X.env = (false, eval e X.env) :: starEach [e2] X.env := by rfl) (hpl : (backTo pos (starEach [e2] X.env)).any (·.1) = false := by rfl) :
    FI X P W (.Tuple elts kk tpos) (.Call (.Name "zip" p) [e, e2] [] pos) (iZip fs) :=
  piI (pi_zipE hg hm ha hs hpl) fun σ H R ⟨w, env, hH, ok, en, pp⟩ => by
    subst hH
    refine ra_bind ok en pp fun w1 vs ds e1 o1 en1 r1 p1 => ?_
    obtain ⟨s, hs, k⟩ := p1.of
    have k := k w1 (Ext.refl w1) rfl o1
    cases r1 with
    | nil => cases hs
    | cons h t =>
      cases t with
      | nil => cases hs
      | cons h2 t =>
        cases t with
        | cons h3 t => cases hs
        | nil =>
          rename_i v d v2 d2
          have hs : (match srcSq w1.S d, srcSq w1.S d2 with
            | some s, some t => some (Src.zip s t)
            | _, _ => none) = some s := hs
          cases g1 : srcSq w1.S d with
          | none => rw [g1] at hs; cases hs
          | some s1 =>
            cases g2 : srcSq w1.S d2 with
            | none => rw [g1, g2] at hs; cases hs
            | some s2 =>
              rw [g1, g2] at hs
              cases hs
              obtain ⟨b, a, xs, rfl, q1, w1'⟩ := sq_src o1 h g1
              obtain ⟨c, a2, ys, rfl, q2, w2'⟩ := sq_src o1 h2 g2
              exact ⟨b, c, a, a2, xs, ys, rfl, q1, q2, k _ (walk_zip w1' w2')⟩
end
/-! ### reversed -/
def srcRev (S : Sto) : D → Option Src
  | .tup ds => some (.fix ds.reverse)
  | .lst ds => some (.fix ds.reverse)
  | .fls ds => some (.fix ds.reverse)
  | _ => none
def iRevD (f : F) : Fi := fun env S => (f env S).bind fun d S1 => R.of (srcRev S1 d) S1
def srcRR : D → Option Src
  | .int j => if smallI j = true then some (.fix (rngD 0 j.toNat).reverse) else none
  | _ => none
def iRevR1 (f : F) : Fi := fun env S => (f env S).bind fun d S1 => R.of (srcRR d) S1
section
variable {K : PySem.W.Frag} {P : Pn} {X : Cx} {W : WX} {e : Expr} {fa : F} {p pos p2 pos2 : Pos} {tg : Expr}
theorem rev_get {α : Type} {l : List α} {i : Nat} (h : i < l.length) : l.reverse[i]? = l[l.length - 1 - i]? := List.getElem?_reverse h
theorem walk_revL {w : Vw} {a : Addr} {xs : List V} {ds : List D} (h : ∀ w', Ext w w' → w'.Ok K → SqL K w'.H a xs) (r : Reps K P w xs ds) : WalksS K P w (Itv K a xs.length) (.fix ds.reverse) := by
  intro w' e o i
  have q := h w' e o
  have hl := r.length
  refine ⟨fun z => ?_, fun d z => ?_⟩
  · have z : ds.reverse[i]? = none := Option.some.inj z
    have := List.getElem?_eq_none_iff.mp z
    rw [List.length_reverse] at this
    show xs.length ≤ i
    omega
  · have z : ds.reverse[i]? = some d := Option.some.inj z
    have hi : i < ds.length := by
      have := (List.getElem?_eq_some_iff.mp z).1
      rw [List.length_reverse] at this
      exact this
    rw [rev_get hi, ← hl] at z
    obtain ⟨v, h1, h2⟩ := r.get z
    refine ⟨⟨by omega, xs, v, q, h1⟩, fun x H' y => ?_⟩
    obtain ⟨rfl, hy⟩ := y
    have := hy xs q
    rw [h1] at this
    cases this
    exact ⟨w', rfl, Ext.refl w', rfl, o, h2.to e⟩
theorem walk_revT {w : Vw} {a : Addr} {xs : List V} {ds : List D} (h : ∀ w', Ext w w' → w'.Ok K → SqT K w'.H a xs) (r : Reps K P w xs ds) : WalksS K P w (RT.ItvT K a xs.length) (.fix ds.reverse) := by
  intro w' e o i
  have q := h w' e o
  have hl := r.length
  refine ⟨fun z => ?_, fun d z => ?_⟩
  · have z : ds.reverse[i]? = none := Option.some.inj z
    have := List.getElem?_eq_none_iff.mp z
    rw [List.length_reverse] at this
    show xs.length ≤ i
    omega
  · have z : ds.reverse[i]? = some d := Option.some.inj z
    have hi : i < ds.length := by
      have := (List.getElem?_eq_some_iff.mp z).1
      rw [List.length_reverse] at this
      exact this
    rw [rev_get hi, ← hl] at z
    obtain ⟨v, h1, h2⟩ := r.get z
    refine ⟨⟨by omega, xs, v, q, h1⟩, fun x H' y => ?_⟩
    obtain ⟨rfl, hy⟩ := y
    have := hy xs q
    rw [h1] at this
    cases this
    exact ⟨w', rfl, Ext.refl w', rfl, o, h2.to e⟩
theorem fi_rev (hg : Gl X "reversed") (hm : X.mg "reversed" = none) (he : FE X P W e fa) (hs : starEach [e] X.env = (false, eval e X.env) :: starEach [] X.env := by rfl) : FI X P W tg (.Call (.Name "reversed" p) [e] [] pos) (iRevD fa) :=
  piI (RT.pi_revA hg hm he hs) fun σ H R ⟨w, env, hH, ok, en, pp⟩ => by
    subst hH
    refine re_bind ok en pp fun w1 v d e1 o1 en1 r1 p1 => ?_
    obtain ⟨s, hs, k⟩ := p1.of
    have k := k w1 (Ext.refl w1) rfl o1
    cases r1 with
    | tup h r => cases hs; exact ⟨_, _, rfl, .inr ⟨h.sq, k _ (walk_revT (fun w' e o => (e.tup h).sq) r)⟩⟩
    | lst h r => cases hs; exact ⟨_, _, rfl, .inl ⟨h.sq, k _ (walk_revL (fun w' e o => (e.lstV h).sq) r)⟩⟩
    | fls h r => cases hs; exact ⟨_, _, rfl, .inl ⟨h.sq, k _ (walk_revL (fun w' e o => (e.lst h).sq) r)⟩⟩
    | _ => cases hs
theorem walk_revR {w : Vw} {n : Nat} : WalksS K P w (Itc ((n : Int) - 1) (-1) n) (.fix (rngD 0 n).reverse) := by
  intro w' e o i
  have hl : (rngD 0 n).length = n := by unfold rngD; simp
  refine ⟨fun z => ?_, fun d z => ?_⟩
  · have z : (rngD 0 n).reverse[i]? = none := Option.some.inj z
    have := List.getElem?_eq_none_iff.mp z
    rw [List.length_reverse, hl] at this
    exact this
  · have z : (rngD 0 n).reverse[i]? = some d := Option.some.inj z
    have hi : i < n := by
      have := (List.getElem?_eq_some_iff.mp z).1
      rw [List.length_reverse, hl] at this
      exact this
    rw [rev_get (by rw [hl]; exact hi), hl] at z
    obtain ⟨h1, rfl⟩ := rngD_get z
    refine ⟨hi, fun v H' y => ⟨w', y.1.symm, Ext.refl w', rfl, o, ?_⟩⟩
    have e3 : (0 : Int) + ((n - 1 - i : Nat) : Int) = (n : Int) - 1 + (i : Nat) * -1 := by omega
    rw [y.2, e3]
    exact .int _
theorem fi_revR (hg : Gl X "reversed") (hm : X.mg "reversed" = none) (hg2 : Gl X "range") (hm2 : X.mg "range" = none) (he : FE X P W e fa) (na : starEach [e] X.env = (false, eval e X.env) :: starEach [] X.env := by rfl)
    (hs : starEach [.Call (.Name "range" p2) [e] [] pos2] X.env = (false, eval (.Call (.Name "range" p2) [e] [] pos2) X.env) :: starEach [] X.env := by rfl) :
    FI X P W tg (.Call (.Name "reversed" p) [.Call (.Name "range" p2) [e] [] pos2] [] pos) (iRevR1 fa) :=
  piI (pi_revR hg hm (prg_1 hg2 hm2 he na) hs) fun σ H R ⟨w, env, hH, ok, en, pp⟩ => by
    subst hH
    unfold iRevR tRg1
    refine re_bind ok en pp fun w1 v d e1 o1 en1 r1 p1 => ?_
    obtain ⟨s, hs, k⟩ := p1.of
    have k := k w1 (Ext.refl w1) rfl o1
    cases r1 with
    | int j =>
      have hs : (if smallI j = true then some (Src.fix (rngD 0 j.toNat).reverse) else none) = some s := hs
      by_cases hj : smallI j = true
      · rw [if_pos hj] at hs
        cases hs
        obtain ⟨h1, h2⟩ := of_decide_eq_true hj
        refine ⟨j, rfl, by omega, by omega, h1, h2, ?_⟩
        have e3 : (0 : Int) + (((j - 0).toNat : Nat) : Int) - 1 = ((j.toNat : Nat) : Int) - 1 := by rw [Int.sub_zero, Int.zero_add]
        rw [e3, Int.sub_zero]
        exact k _ walk_revR
      · rw [if_neg hj] at hs
        cases hs
    | _ => cases hs
end
/-! ### all, is of bools, isinstance with a tuple of classes -/
section
variable {K : PySem.W.Frag} {P : Pn}
def blsOf : List D → Option (List Bool)
  | [] => some []
  | .bl b :: ds => (blsOf ds).map (b :: ·)
  | _ => none
def gAll : Sto → List D → Option D := g1 fun _ d => match d with
  | .lst ds => (blsOf ds).map fun bs => .bl (bs.all id)
  | _ => none
/-- isinstance of an error, of a tuple of classes -/
def rIsXT (X : Cx) : List V → Hp → VK → Prop := fun xs H Q => ∃ (a D tp : Addr) (oe : Obj) (cs : List V) (us : List Value) (b : Bool), xs = [.ref a, .ref tp] ∧ (a, oe) ∈ X.pn ∧ oe.cls = .ref D ∧ (∃ vs, oe.data = .fields vs) ∧ (oe.dict = none ∨ ∃ dd fs, oe.dict = some dd ∧ H dd = some (.xd fs)) ∧ L2.ExcC X.K D ∧ (PySem.W.clsIn X.K D).isSome = true ∧
  SqT X.K H tp cs ∧ Paired ClsV cs us ∧ PySem.W.kitAny X.K (.ref D) us = some b ∧ Q (.bl b) H
theorem call_isXT {X : Cx} : CallR X (.builtin "isinstance") (rIsXT X) := by
  intro pins s σ H xs us Q I r h
  obtain ⟨a, D, tp, oe, cs, ws, b, rfl, hm, hz, ⟨vs, hv⟩, hd, C, hcl, hT, hcv, e, q⟩ := h
  obtain ⟨u1, u2, rfl, r1, r2⟩ := vals2 r
  cases r1
  cases (show u2 = Value.ref tp from r2)
  obtain ⟨its, rv, ⟨o, h1, h2, n, h3⟩, _⟩ := I.tuple hT
  have e3 := ClsV.all hcv rv
  subst e3
  obtain ⟨oc, od, dt, sl⟩ := o
  simp only at h2 h3
  subst h2 h3
  obtain ⟨hget, _⟩ := I.pin (a, oe) (List.mem_append_left _ hm)
  rcases hd with hd | ⟨dd, fs, hd, hx⟩
  · have J : PySem.W.InstAt s.heap a oe D none := ⟨hget, hz, by unfold PySem.W.notCls; rw [hv] <;> rfl, by rw [hd]; trivial⟩
    exact PySem.W.kia_tup (PySem.W.kitx_exc hcl C.hg C.hk C.hs C.ha C.hn C.ht C.hm) I.kIn J h1 e (fun z => nomatch z) fun tk => ⟨.bl b, H, I.kept (t' := tk) fun _ _ z => z, rfl, q⟩
  · have hx : ObjOk X.prog X.w H s.heap dd (.xd fs) := I.hok dd _ hx
    obtain ⟨mA, hns, hr⟩ := hx
    obtain ⟨od2, ho, hl⟩ := lookIn_ns hns
    have J : PySem.W.InstAt s.heap a oe D (some od2) := ⟨hget, hz, by unfold PySem.W.notCls; rw [hv] <;> rfl, by rw [hd]; exact ho⟩
    exact PySem.W.kia_tup (PySem.W.kitx_exc hcl C.hg C.hk C.hs C.ha C.hn C.ht C.hm) I.kIn J h1 e (fun z => nomatch z) fun tk => ⟨.bl b, H, I.kept (t' := tk) fun _ _ z => z, rfl, q⟩
def keyOf : D → Option (String ⊕ Addr)
  | .ty n => some (.inl n)
  | .ref a => some (.inr a)
  | _ => none
def anyT (tab : List (Addr × (String ⊕ Addr) × Bool)) (C : Addr) : List D → Option Bool
  | [] => some false
  | t :: ts => match keyOf t with
    | some k => (match lookT C k tab with
      | some true => some true
      | some false => anyT tab C ts
      | none => none)
    | none => none
def gIsiT (tab : List (Addr × (String ⊕ Addr) × Bool)) : Sto → List D → Option D := fun _ ds => match ds with
  | [.exn C _, .tup ts] => (anyT tab C ts).map .bl
  | _ => none
theorem anyT_ok {w : Vw} {tab : List (Addr × (String ⊕ Addr) × Bool)} {C : Addr} (hT : ∀ q ∈ tab, PySem.W.kitOne K (.ref q.1) (clsOf q.2.1) = some q.2.2) : ∀ {cs : List V} {ts : List D} {b : Bool}, Reps K P w cs ts → (∀ t ∈ ts, keyOf t ≠ none) → anyT tab C ts = some b →
    ∃ us, Paired ClsV cs us ∧ PySem.W.kitAny K (.ref C) us = some b
  | _, _, b, .nil, _, e => by cases e; exact ⟨[], .nil, rfl⟩
  | _, _, b, .cons (v := v) (d := d) (vs := vs) (ds := ds) h t, ht, e => by
    have one : ∀ k, keyOf d = some k → ClsV v (clsOf k) := fun k hk => by
      cases h <;> cases hk <;> constructor
    have tail : ∀ {ts : List D} {cs : List V}, Reps K P w cs ts → (∀ t ∈ ts, keyOf t ≠ none) → ∃ us, Paired ClsV cs us := by
      intro ts
      induction ts with
      | nil => intro cs r _; cases r; exact ⟨[], .nil⟩
      | cons t ts ih =>
        intro cs r ht
        cases r with
        | cons h t2 =>
          obtain ⟨us, hu⟩ := ih t2 fun t hm => ht t (List.mem_cons_of_mem _ hm)
          cases g : keyOf t with
          | none => exact absurd g (ht t List.mem_cons_self)
          | some k => exact ⟨clsOf k :: us, .cons (by cases h <;> cases g <;> constructor) hu⟩
    unfold anyT at e
    cases g : keyOf d with
    | none => rw [g] at e; cases e
    | some k =>
      rw [g] at e
      have e : (match lookT C k tab with
        | some true => some true
        | some false => anyT tab C ds
        | none => none) = some b := e
      cases l : lookT C k tab with
      | none => rw [l] at e; cases e
      | some b0 =>
        rw [l] at e
        have hk1 := hT _ (lookT_mem l)
        cases b0 with
        | true =>
          cases e
          obtain ⟨us, hu⟩ := tail t fun t hm => ht t (List.mem_cons_of_mem _ hm)
          exact ⟨clsOf k :: us, .cons (one k g) hu, kitAny_cons hk1 (fun z => by cases z) fun _ => rfl⟩
        | false =>
          obtain ⟨us, hu, ha⟩ := anyT_ok hT t (fun t hm => ht t (List.mem_cons_of_mem _ hm)) e
          exact ⟨clsOf k :: us, .cons (one k g) hu, kitAny_cons hk1 (fun _ => ha) fun z => by cases z⟩
/-- all of them are classes -/
def clsB (ts : List D) : Bool := !ts.isEmpty && ts.all fun t => (keyOf t).isSome
def gIsT (tab : List (Addr × (String ⊕ Addr) × Bool)) : Sto → List D → Option D := fun S ds => match ds with
  | [_, .tup ts] => if clsB ts = true then gIsiT tab S ds else none
  | _ => none
theorem sim_isT {X : Cx} {tab : List (Addr × (String ⊕ Addr) × Bool)} (hP : ∀ q ∈ P, q ∈ X.pn) (hT : ∀ q ∈ tab, L2.ExcC X.K q.1 ∧ (PySem.W.clsIn X.K q.1).isSome = true ∧ PySem.W.kitOne X.K (.ref q.1) (clsOf q.2.1) = some q.2.2) : SimC X.K P (rIsXT X) (gIsT tab) := by
  intro w xs ds z Q o rr e q
  cases rr with
  | nil => cases e
  | @cons v d vs ds r1 rr =>
    cases rr with
    | nil => cases d <;> cases e
    | @cons u c us cs r2 rr =>
      cases rr with
      | cons _ _ => cases c <;> cases e
      | nil =>
        cases r2 with
        | @tup tp cs ts ht rt =>
          have e : (if clsB ts = true then gIsiT tab w.S [d, .tup ts] else none) = some z := e
          by_cases hc : clsB ts = true
          · rw [if_pos hc] at e
            have hk : ∀ t ∈ ts, keyOf t ≠ none := fun t ht z => by
              have := List.all_eq_true.mp (Bool.and_eq_true_iff.mp hc).2 t ht
              rw [z] at this
              cases this
            have fin : ∀ (C : Addr) (gs : List (Str × D)) b, d = .exn C gs → anyT tab C ts = some b → z = .bl b → rIsXT X [v, .ref tp] w.H Q := fun C gs b hd hb hz => by
              subst hd hz
              obtain ⟨us, hu, ha⟩ := anyT_ok (K := X.K) (P := P) (w := w) (fun q hq => (hT q hq).2.2) rt hk hb
              have hx : L2.ExcC X.K C ∧ (PySem.W.clsIn X.K C).isSome = true := by
                cases ts with
                | nil => cases (Bool.and_eq_true_iff.mp hc).1
                | cons t ts =>
                  unfold anyT at hb
                  cases g : keyOf t with
                  | none => rw [g] at hb; cases hb
                  | some k =>
                    rw [g] at hb
                    have hb : (match lookT C k tab with
                      | some true => some true
                      | some false => anyT tab C ts
                      | none => none) = some b := hb
                    cases l : lookT C k tab with
                    | none => rw [l] at hb; cases hb
                    | some b0 => exact ⟨(hT _ (lookT_mem l)).1, (hT _ (lookT_mem l)).2.1⟩
              cases r1 with
              | @exn0 a _ oe h hz hf => exact ⟨a, C, tp, oe, cs, us, b, rfl, hP _ h, hz.1, hf, .inl hz.2, hx.1, hx.2, ht.sq, hu, ha, q w _ (Ext.refl w) rfl o (.bl _)⟩
              | @exn a _ dd oe fs _ h hz hf hd nm r => exact ⟨a, C, tp, oe, cs, us, b, rfl, hP _ h, hz.1, hf, .inr ⟨dd, fs, hz.2, hd⟩, hx.1, hx.2, ht.sq, hu, ha, q w _ (Ext.refl w) rfl o (.bl _)⟩
            cases d with
            | exn C gs =>
              have e : (anyT tab C ts).map D.bl = some z := e
              cases g : anyT tab C ts with
              | none => rw [g] at e; cases e
              | some b => rw [g] at e; cases e; exact fin C gs b rfl g rfl
            | _ => cases e
          · rw [if_neg hc] at e
            cases e
        | _ => cases d <;> cases e
end
/-! ### max of a tuple of ints -/
section
open PySem.W
theorem hold_ints {h : Heap} : ∀ {vs : List Value} {ns : List Int}, IntsAre vs ns → HoldAll h vs ns
  | _, _, .nil => HoldAll.nil
  | _, _, .cons n t r => HoldAll.cons ⟨_, .int _ _⟩ (hold_ints r)
theorem max_spec : ∀ (xs : List Int) (x : Int), maxOf x xs ∈ x :: xs ∧ ∀ y ∈ x :: xs, y ≤ maxOf x xs
  | [], x => ⟨List.mem_cons_self, fun y hy => by
    have : y = x := by simpa using hy
    subst this
    exact Int.le_refl _⟩
  | z :: xs, x => by
    obtain ⟨h1, h2⟩ := max_spec xs (if DatumOrd.lt x z = true then z else x)
    have e : maxOf x (z :: xs) = maxOf (if DatumOrd.lt x z = true then z else x) xs := rfl
    have lt : (DatumOrd.lt x z = true) ↔ x < z := by
      show (decide (x < z) = true) ↔ _
      rw [decide_eq_true_eq]
    rw [e]
    by_cases c : x < z
    · rw [if_pos (lt.mpr c)] at h1 h2 ⊢
      refine ⟨List.mem_cons_of_mem _ h1, fun y hy => ?_⟩
      rcases List.mem_cons.mp hy with rfl | hy
      · have := h2 z List.mem_cons_self
        omega
      · exact h2 y hy
    · rw [if_neg fun q => c (lt.mp q)] at h1 h2 ⊢
      refine ⟨?_, fun y hy => ?_⟩
      · rcases List.mem_cons.mp h1 with e | h
        · rw [e]; exact List.mem_cons_self
        · exact List.mem_cons_of_mem _ (List.mem_cons_of_mem _ h)
      · rcases List.mem_cons.mp hy with rfl | hy
        · exact h2 _ List.mem_cons_self
        · rcases List.mem_cons.mp hy with rfl | hy
          · have := h2 x List.mem_cons_self
            omega
          · exact h2 y (List.mem_cons_of_mem _ hy)
def rMaxT (K : PySem.W.Frag) : List V → Hp → VK → Prop := fun vs H Q => ∃ (a : Addr) (ns : List Int), vs = [V.ref a] ∧ SqT K H a (ns.map V.int) ∧ 0 < ns.length ∧ ∀ m, m ∈ ns → (∀ y, y ∈ ns → y ≤ m) → Q (.int m) H
theorem cr_maxT {X : Cx} (hc : X.calm = true) (hu : X.A.units + 64 < cLine) : CallR X (.builtin "max") (rMaxT X.K) := by
  intro pins s σ H vs us Q I r h
  obtain ⟨a, ns, rfl, hs, hne, q⟩ := h
  obtain ⟨its, rv, hl, _⟩ := I.tuple hs
  rw [Vals.ref1 r]
  cases ns with
  | nil => exact absurd hne (Nat.lt_irrefl 0)
  | cons n ns =>
    have hi := rv.ints
    refine max_tuple_datum (α := Int) (I.ok.hd hc) hl (x := n) (xs := ns) (by simpa using hold_ints hi) (by show X.A.units + 1 + 0 < cLine; omega) fun i v h' tk hv hm hk => ?_
    have hv : its[i]? = some v := by simpa using hv
    have hlen := rv.length
    rw [List.length_map] at hlen
    have hil : i < (n :: ns).length := by
      have := (List.getElem?_eq_some_iff.mp hv).1
      omega
    obtain ⟨u, hu2, ru⟩ := rv.get (i := i) (x := V.int (n :: ns)[i]) (by rw [List.getElem?_map, List.getElem?_eq_getElem hil]; rfl)
    rw [hv] at hu2
    cases hu2
    obtain ⟨t, rfl⟩ := (show ∃ t, v = Value.int (n :: ns)[i] t from ru)
    generalize (n :: ns)[i] = k at hm
    have e : k = maxOf n ns := by
      obtain ⟨as, hr⟩ := hm
      cases hr
      rfl
    obtain ⟨s1, s2⟩ := max_spec ns n
    exact ⟨.int _, H, I.kept (t' := tk) hk, ⟨_, rfl⟩, q k (by rw [e]; exact s1) (by rw [e]; exact s2)⟩
end
def gMaxT : Sto → List D → Option D := g1 fun _ d => match d with
  | .tup ds => ((intsOf ds).bind maxI).map .int
  | _ => none
theorem ints_ofT {K : PySem.W.Frag} {P : Pn} {w : Vw} : ∀ {xs : List V} {ds : List D} {ns : List Int}, Reps K P w xs ds → intsOf ds = some ns → xs = ns.map V.int
  | _, _, _, .nil, e => by cases e; rfl
  | _, _, ns, .cons h t, e => by
    cases h with
    | int i =>
      rename_i vs ds
      have e : (intsOf ds).map (i :: ·) = some ns := e
      cases g : intsOf ds with
      | none => rw [g] at e; cases e
      | some cs => rw [g] at e; cases e; rw [ints_ofT t g]; rfl
    | _ => cases e
theorem sim_maxT {K : PySem.W.Frag} {P : Pn} : SimC K P (rMaxT K) gMaxT := sim1 fun w x d z Q o r e q => by
  cases r with
  | tup h r =>
    rename_i a xs ds
    have e : ((intsOf ds).bind maxI).map D.int = some z := e
    cases g : intsOf ds with
    | none => rw [g] at e; cases e
    | some ns =>
      rw [g] at e
      have := ints_ofT r g
      subst this
      cases ns with
      | nil => cases e
      | cons n ns =>
        refine ⟨a, n :: ns, rfl, h.sq, Nat.succ_pos _, fun m h1 h2 => ?_⟩
        have e' : (maxI (n :: ns)).map D.int = some z := e
        rw [maxI_eq h1 h2] at e'
        cases e'
        exact q w _ (Ext.refl w) rfl o (.int _)
  | _ => cases e
/-! ### the run's rules -/
section
variable {S : Sto} {K : R D → Prop} {KL : R (List D) → Prop} {env : Env} {KI : R Src → Prop}
theorem w_iZip {fs : Fa} (q : W (fs env S) (Bk (fun ds S1 => R.of (srcZip S1 ds) S1) KI)) : W (iZip fs env S) KI := q
theorem w_iRevD {f : F} (q : W (f env S) (Bk (fun d S1 => R.of (srcRev S1 d) S1) KI)) : W (iRevD f env S) KI := q
theorem w_iRevR {f : F} (q : W (f env S) (Bk (fun d S1 => R.of (srcRR d) S1) KI)) : W (iRevR1 f env S) KI := q
theorem w_srcRevL {α : Type} {enc : α → D} {l : List α} (q : W (R.ok (Src.fix (l.reverse.map enc)) S) KI) : W (R.of (srcRev S (.lst (l.map enc))) S) KI := by
  refine w_ofS ?_ q
  show some (Src.fix (l.map enc).reverse) = _
  rw [List.map_reverse]
theorem srcRR_j {j : Int} (h : smallI j = true) : srcRR (.int j) = some (.fix (rngD 0 j.toNat).reverse) := by
  unfold srcRR
  simp only [h, if_true]
theorem rng_rev (n : Nat) : (rngD 0 n).reverse = (List.range n).reverse.map fun k : Nat => D.int (k : Int) := by
  rw [List.map_reverse]
  refine congrArg List.reverse ?_
  unfold rngD
  refine List.map_congr_left fun k _ => ?_
  rw [Int.zero_add]
theorem w_srcRR {j : Int} (h0 : 0 ≤ j) (h : j ≤ 1000000) (q : W (R.ok (Src.fix ((List.range j.toNat).reverse.map fun k : Nat => D.int (k : Int))) S) KI) : W (R.of (srcRR (.int j)) S) KI := by
  refine w_ofS ?_ q
  rw [srcRR_j (decide_eq_true ⟨by omega, by omega⟩), rng_rev]
theorem giv_src {d : D} {ds : List D} (g : Giv S d ds) : ∃ s, srcSq S d = some s ∧ (∀ i, s.next S i = some ds[i]?) ∧ s.fuel S = ds.length := by
  rcases g with rfl | rfl | ⟨m, rfl, e⟩
  · exact ⟨_, rfl, fun _ => rfl, rfl⟩
  · exact ⟨_, rfl, fun _ => rfl, rfl⟩
  · refine ⟨.cell m, ?_, fun i => ?_, ?_⟩
    · show (Cell.lst? S[m]?).map (fun _ => Src.cell m) = _
      rw [e]; rfl
    · show (Cell.lst? S[m]?).map (fun ds => ds[i]?) = _
      rw [e]; rfl
    · show ((Cell.lst? S[m]?).getD []).length = _
      rw [e]; rfl
theorem lcS_any {body : D → Sto → R (Option D)} {src : Src} {all : List D} (hn : ∀ i, i ≤ all.length → src.next S i = some all[i]?) : ∀ (ds : List D) (n i : Nat) (acc : List D), i ≤ all.length → all.drop i = ds → ds.length ≤ n → (∀ d ∈ ds, ∃ o, body d S = .ok o S) → lcS src body n i acc S = lcS (.fix all) body ds.length i acc S
  | [], n, i, acc, hi, h, _, _ => by
    have e : all[i]? = none := by
      have := List.getElem?_drop (xs := all) (i := i) (j := 0)
      rw [h] at this
      simpa using this.symm
    have n1 : src.next S i = some none := by rw [hn i hi, e]
    have n2 : (Src.fix all).next S i = some none := by show some all[i]? = _; rw [e]
    have e1 : lcS src body n i acc S = .ok acc S := by
      unfold lcS
      rw [n1]
    have e2 : lcS (.fix all) body ([] : List D).length i acc S = .ok acc S := by
      unfold lcS
      rw [n2]
    rw [e1, e2]
  | d :: r, 0, i, acc, hi, h, hl, hb => absurd hl (by simp)
  | d :: r, n + 1, i, acc, hi, h, hl, hb => by
    have e : all[i]? = some d := by
      have := List.getElem?_drop (xs := all) (i := i) (j := 0)
      rw [h] at this
      simpa using this.symm
    have h2 : all.drop (i + 1) = r := by
      rw [← List.drop_drop, h]
      rfl
    have hi2 : i + 1 ≤ all.length := (List.getElem?_eq_some_iff.mp e).1
    have n1 : src.next S i = some (some d) := by rw [hn i hi, e]
    have n2 : (Src.fix all).next S i = some (some d) := by show some all[i]? = _; rw [e]
    rw [List.length_cons]
    unfold lcS
    rw [n1, n2]
    obtain ⟨oo, ho⟩ := hb d List.mem_cons_self
    show (body d S).bind _ = (body d S).bind _
    rw [ho]
    have ih := fun acc => lcS_any (body := body) hn r n (i + 1) acc hi2 h2 (Nat.le_of_succ_le_succ hl) fun d hd => hb d (List.mem_cons_of_mem _ hd)
    cases oo with
    | none => exact ih acc
    | some z =>
      show (if acc.length < sizeLine then _ else _) = (if acc.length < sizeLine then _ else _)
      rw [ih]
theorem w_srcZip {g1 g2 : D} {ds es : List D} {s t : Src} (h1 : srcSq S g1 = some s) (h2 : srcSq S g2 = some t) (q : W (R.ok (Src.zip s t) S) KI) : W (R.of (srcZip S [g1, g2]) S) KI := by
  refine w_ofS ?_ q
  show (match srcSq S g1, srcSq S g2 with
    | some s, some t => some (Src.zip s t)
    | _, _ => none) = _
  rw [h1, h2]
theorem zip_next {s t : Src} {ds es : List D} (h1 : ∀ i, s.next S i = some ds[i]?) (h2 : ∀ i, t.next S i = some es[i]?) {i : Nat} (hi : i ≤ (ds.zip es).length) : (Src.zip s t).next S i = some ((ds.zip es).map fun p : D × D => D.tup [p.1, p.2])[i]? := by
  rw [List.length_zip] at hi
  unfold Src.next
  rw [h1 i, h2 i, List.getElem?_map]
  cases g1 : ds[i]? with
  | some x =>
    cases g2 : es[i]? with
    | some y =>
      have : (ds.zip es)[i]? = some (x, y) := List.getElem?_zip_eq_some.mpr ⟨g1, g2⟩
      rw [this]
      rfl
    | none =>
      have l2 := List.getElem?_eq_none_iff.mp g2
      have : (ds.zip es)[i]? = none := List.getElem?_eq_none_iff.mpr (by rw [List.length_zip]; omega)
      rw [this]
      cases i with
      | zero => rfl
      | succ j =>
        show (match s.next S j, t.next S j with
          | some (some _), some (some _) => some none
          | _, _ => none) = (some none : Option (Option D))
        rw [h1 j, h2 j, List.getElem?_eq_getElem (show j < ds.length by omega), List.getElem?_eq_getElem (show j < es.length by omega)]
  | none =>
    have l1 := List.getElem?_eq_none_iff.mp g1
    have : (ds.zip es)[i]? = none := List.getElem?_eq_none_iff.mpr (by rw [List.length_zip]; omega)
    rw [this]
    cases i with
    | zero => cases g2 : es[0]? <;> rfl
    | succ j =>
      have k1 : s.next S j = some (some ds[j]) := by rw [h1 j, List.getElem?_eq_getElem (show j < ds.length by omega)]
      have k2 : t.next S j = some (some es[j]) := by rw [h2 j, List.getElem?_eq_getElem (show j < es.length by omega)]
      cases g2 : es[j + 1]? with
      | none =>
        show (match s.next S j, t.next S j with
          | some (some _), some (some _) => some none
          | _, _ => none) = (some none : Option (Option D))
        rw [k1, k2]
      | some y =>
        show (match s.next S j, t.next S j with
          | some (some _), some (some _) => some none
          | _, _ => none) = (some none : Option (Option D))
        rw [k1, k2]
/-- [f for x, y in zip(a, b)], two sequences that are there, the elements pure -/
theorem w_lcZ {α β γ : Type} {e1 : α → D} {e2 : β → D} {enc2 : γ → D} {l : List α} {l2 : List β} {g1 g2 : D} {t : TGf} {ft : Ft} {fe : F} {vs : List Nat} (h1 : Giv S g1 (l.map e1)) (h2 : Giv S g2 (l2.map e2)) (hh : α × β → γ) (hl : l.length ≤ 16777216)
    (hb : ∀ p ∈ l.zip l2, W (lcBody t ft fe (wipeE env vs) (.tup [e1 p.1, e2 p.2]) S) (fun r => r = .ok (some (enc2 (hh p))) S))
    (q : W (R.ok (((l.zip l2).map hh).map enc2) S) KL) : W (R.of (srcZip S [g1, g2]) S) (LC env t ft fe vs KL) := by
  obtain ⟨s, hs, n1, f1⟩ := giv_src h1
  obtain ⟨u, hu, n2, f2⟩ := giv_src h2
  refine w_srcZip (ds := []) (es := []) hs hu ?_
  have p := w_lcM (ft := ft) (enc := fun p : α × β => D.tup [e1 p.1, e2 p.2]) hh (by rw [List.length_zip]; omega) hb q
  have p : KL (lcS (.fix ((l.zip l2).map fun p : α × β => D.tup [e1 p.1, e2 p.2])) (lcBody t ft fe (wipeE env vs)) ((l.zip l2).map fun p : α × β => D.tup [e1 p.1, e2 p.2]).length 0 [] S) := p
  show KL (lcS (.zip s u) (lcBody t ft fe (wipeE env vs)) (s.fuel S) 0 [] S)
  have ez : ((l.map e1).zip (l2.map e2)).map (fun p : D × D => D.tup [p.1, p.2]) = (l.zip l2).map fun p : α × β => D.tup [e1 p.1, e2 p.2] := by
    rw [List.zip_map, List.map_map]
    rfl
  have el : ((l.map e1).zip (l2.map e2)).length = (l.zip l2).length := by rw [List.length_zip, List.length_zip, List.length_map, List.length_map]
  rw [lcS_any (src := .zip s u) (all := (l.zip l2).map fun p : α × β => D.tup [e1 p.1, e2 p.2]) (fun i hi => by rw [← ez]; exact zip_next n1 n2 (by rw [el]; rw [List.length_map] at hi; exact hi)) _ (s.fuel S) 0 [] (Nat.zero_le _) rfl (by rw [f1, List.drop_zero, List.length_map, List.length_map, List.length_zip]; omega) (fun d hd => by
    rw [List.drop_zero] at hd
    obtain ⟨x, hx, rfl⟩ := List.mem_map.mp hd
    exact ⟨_, hb x hx⟩)]
  exact p
theorem w_isB {a b : Bool} (q : W (R.ok (.bl (decide (a = b))) S) K) : W (R.of (gIsB false S (.bl a) (.bl b)) S) K := q
end
end FL
set_option maxRecDepth 100000
set_option maxHeartbeats 2000000
namespace K51
open PySem PySem.Spec PyProof.Rows L2 FL
def N_l_draw : List Str := ["_law_pool", "_law_many", "_law_cell"]
def g_l_draw : SF :=
  (sSeq (sIf (fB (fBin (gEq false) (fVar 0) (fLst fNil))) (sRet (fC (.int 0))) sNext)
  (sSeq (sAsg (fMut0 gPop (fVar 0)) (gN 2))
  (sSeq (sIf (fB (fBin gGe (fVar 2) (fVar 1))) (sDrop (fMut gAppend (fVar 0) (fCons (fBin gDiv (fVar 2) (fVar 1)) fNil))) sNext)
  (sRet (fBin gMod (fBu gInt (fCons (fVar 2) fNil)) (fVar 1))))))
def f_l_draw : Fn := runF (g_l_draw) 3
def N_l_measure : List Str := ["_law_pool", "_law_way"]
def g_l_measure : SF :=
  (sSeq (sAsg (fCall f_l_draw [] (fCons (fVar 0) (fCons (fC (.int 4)) fNil))) (gN 1))
  (sSeq (sIf (fB (fBin (gEq false) (fVar 1) (fC (.int 2)))) (sRet (fC (.int 1))) sNext)
  (sSeq (sIf (fB (fBin (gEq false) (fVar 1) (fC (.int 3)))) (sRet (fC (.int 100))) sNext)
  (sRet (fBin gAdd (fC (.int 1)) (fBin gMod (fBu gInt (fCons (fBin gAdd (fC (.int 9)) (fCall f_l_draw [] (fCons (fVar 0) (fCons (fC (.int 100)) fNil)))) fNil)) (fC (.int 100))))))))
def f_l_measure : Fn := runF (g_l_measure) 2
def N_l_cost : List Str := ["_law_pool", "_law_mode", "_law_weight", "_law_common", "_law_k", "_law_way"]
def g_l_cost : SF :=
  (sSeq (sIf (fB (fBin (gEq false) (fVar 1) (fC (.int 1)))) (sRet (fBu (gI2C max2) (fCons (fC (.int 0)) (fCons (fBin gSub (fVar 2) (fVar 3)) fNil)))) sNext)
  (sSeq (sIf (fB (fBin (gEq false) (fVar 1) (fC (.int 2)))) (sRet (fBin gAdd (fVar 2) (fCall f_l_draw [] (fCons (fVar 0) (fCons (fC (.int 3)) fNil))))) sNext)
  (sSeq (sIf (fB (fBin (gEq false) (fVar 1) (fC (.int 3)))) (sRet (fCall f_l_draw [] (fCons (fVar 0) (fCons (fC (.int 10000)) fNil)))) sNext)
  (sSeq (sAsg (fBin gMod (fBu gInt (fCons (fBin gAdd (fVar 4) (fCall f_l_draw [] (fCons (fVar 0) (fCons (fC (.int 5)) fNil)))) fNil)) (fC (.int 5))) (gN 5))
  (sSeq (sIf (fB (fBin (gEq false) (fVar 5) (fC (.int 0)))) (sRet (fCall f_l_draw [] (fCons (fVar 0) (fCons (fC (.int 60)) fNil)))) sNext)
  (sSeq (sIf (fB (fBin (gEq false) (fVar 5) (fC (.int 3)))) (sRet (fVar 2)) sNext)
  (sSeq (sIf (fB (fBin (gEq false) (fVar 5) (fC (.int 4)))) (sRet (fBu (gI2C max2) (fCons (fC (.int 0)) (fCons (fBin gSub (fVar 2) (fC (.int 1))) fNil)))) sNext)
  (sRet (fBu (gI2C max2) (fCons (fC (.int 0)) (fCons (fBin gSub (fVar 2) (fVar 3)) fNil)))))))))))
def f_l_cost : Fn := runF (g_l_cost) 6
def N_l_case : List Str := ["_law_pool", "_law_plain", "_law_size", "_law_many", "_law_row", "_law_scale", "_law_mode", "_law_common", "_law_known", "_law_k"]
def g_l_case : SF :=
  (sSeq (sAsg (fC (.int 6)) (gN 2))
  (sSeq (sIf (fB (fBin (gEq false) (fCall f_l_draw [] (fCons (fVar 0) (fCons (fC (.int 5)) fNil))) (fC (.int 4)))) (sAsg (fC (.int 100)) (gN 2)) sNext)
  (sSeq (sAsg (fBin gAdd (fC (.int 1)) (fBin gMod (fBu gInt (fCons (fBin gAdd (fVar 1) (fCall f_l_draw [] (fCons (fVar 0) (fCons (fC (.int 6)) fNil)))) fNil)) (fC (.int 6)))) (gN 3))
  (sSeq (sAsg (fLc (iRng gRng1 (fCons (fVar 3) fNil)) (gN 9) fYes (fBin gMod (fBu gInt (fCons (fBin gAdd (fBin gAdd (fC (.int 3)) (fBin gMulA (fC (.int 2)) (fVar 9))) (fCall f_l_draw [] (fCons (fVar 0) (fCons (fVar 2) fNil)))) fNil)) (fVar 2)) [9]) (gN 4))
  (sSeq (sAsg (fCall f_l_measure [] (fCons (fVar 0) fNil)) (gN 5))
  (sSeq (sAsg (fBin gMod (fBu gInt (fCons (fBin gAdd (fVar 1) (fCall f_l_draw [] (fCons (fVar 0) (fCons (fC (.int 4)) fNil)))) fNil)) (fC (.int 4))) (gN 6))
  (sSeq (sAsg (fBin gMod (fBu gInt (fCons (fBin gAdd (fC (.int 7)) (fCall f_l_draw [] (fCons (fVar 0) (fCons (fC (.int 30)) fNil)))) fNil)) (fC (.int 30))) (gN 7))
  (sSeq (sAsg (fLoc fNil) (gN 8))
  (sSeq (sFor (iRng gRng1 (fCons (fVar 3) fNil)) (gN 9) (sDrop (fMut gAppend (fVar 8) (fCons (fCall f_l_cost [] (fCons (fVar 0) (fCons (fVar 6) (fCons (fBin gMulA (fVar 5) (fBin gIx (fVar 4) (fVar 9))) (fCons (fVar 7) (fCons (fVar 9) fNil)))))) fNil))))
  (sRet (fLst (fCons (fVar 4) (fCons (fVar 5) (fCons (fVar 8) fNil))))))))))))))
def f_l_case : Fn := runF (g_l_case) 10
def m_l_case : Fn := fz f_l_case
def N_l_bent : List Str := ["_law_case_here", "_law_way", "_law_at", "_law_far", "_law_row", "_law_scale", "_law_known"]
def g_l_bent : SF :=
  (sSeq (sAsg (fBuL gList (fCons (fBin gIx (fVar 0) (fC (.int 0))) fNil)) (gN 4))
  (sSeq (sAsg (fBin gIx (fVar 0) (fC (.int 1))) (gN 5))
  (sSeq (sAsg (fBuL gList (fCons (fBin gIx (fVar 0) (fC (.int 2))) fNil)) (gN 6))
  (sSeq (sIf (fB (fBin (gEq false) (fVar 1) (fC (.int 0)))) (sAsg (fLoc fNil) (gN 4)) sNext)
  (sSeq (sIf (fB (fBin (gEq false) (fVar 1) (fC (.int 1)))) (sAsg (fBinL gCat (fVar 4) (fLst (fCons (fVar 3) (fCons (fC (.int 1)) (fCons (fC (.int 2)) (fCons (fC (.int 3)) (fCons (fC (.int 4)) (fCons (fC (.int 5)) (fCons (fC (.int 6)) fNil))))))))) (gN 4)) sNext)
  (sSeq (sIf (fAnd (fB (fBin (gEq false) (fVar 1) (fC (.int 2)))) (fB (fBin (gEq true) (fVar 4) (fLst fNil)))) (sSetI (fBin gSub (fUn gNeg (fC (.int 1))) (fVar 3)) (fVar 4) (fBin gMod (fBu gInt (fCons (fVar 2) fNil)) (fBu gLen (fCons (fVar 4) fNil)))) sNext)
  (sSeq (sIf (fAnd (fB (fBin (gEq false) (fVar 1) (fC (.int 3)))) (fB (fBin (gEq true) (fVar 4) (fLst fNil)))) (sSetI (fBin gAdd (fC (.int 100)) (fVar 3)) (fVar 4) (fBin gMod (fBu gInt (fCons (fVar 2) fNil)) (fBu gLen (fCons (fVar 4) fNil)))) sNext)
  (sSeq (sIf (fB (fBin (gEq false) (fVar 1) (fC (.int 4)))) (sAsg (fBin gSub (fC (.int 0)) (fVar 3)) (gN 5)) sNext)
  (sSeq (sIf (fB (fBin (gEq false) (fVar 1) (fC (.int 5)))) (sAsg (fBin gAdd (fC (.int 101)) (fVar 3)) (gN 5)) sNext)
  (sSeq (sIf (fB (fBin (gEq false) (fVar 1) (fC (.int 6)))) (sAsg (fSlG gSl (fVar 6) (fPart (fC (.int 1))) fNoP) (gN 6)) sNext)
  (sSeq (sIf (fB (fBin (gEq false) (fVar 1) (fC (.int 7)))) (sAsg (fBinL gCat (fVar 6) (fLst (fCons (fVar 3) fNil))) (gN 6)) sNext)
  (sSeq (sIf (fAnd (fB (fBin (gEq false) (fVar 1) (fC (.int 8)))) (fB (fBin (gEq true) (fVar 6) (fLst fNil)))) (sSetI (fBin gSub (fUn gNeg (fC (.int 1))) (fVar 3)) (fVar 6) (fBin gMod (fBu gInt (fCons (fVar 2) fNil)) (fBu gLen (fCons (fVar 6) fNil)))) sNext)
  (sSeq (sIf (fAnd (fB (fBin (gEq false) (fVar 1) (fC (.int 9)))) (fB (fBin (gEq true) (fVar 6) (fLst fNil)))) (sSetI (fBin gAdd (fC (.int 10000)) (fVar 3)) (fVar 6) (fBin gMod (fBu gInt (fCons (fVar 2) fNil)) (fBu gLen (fCons (fVar 6) fNil)))) sNext)
  (sRet (fLst (fCons (fVar 4) (fCons (fVar 5) (fCons (fVar 6) fNil))))))))))))))))))
def f_l_bent : Fn := runF (g_l_bent) 7
def m_l_bent : Fn := fz f_l_bent
def N_l_wrong : List Str := ["_law_row", "_law_scale", "_law_known", "_law_worth", "_law_price"]
def g_l_wrong : SF :=
  (sSeq (sIf (fOr (fB (fBin gLt (fBu gLen (fCons (fVar 0) fNil)) (fC (.int 1)))) (fB (fBin gGt (fBu gLen (fCons (fVar 0) fNil)) (fC (.int 6))))) (sRet (fTup (fCons (fC (.str "row")) (fCons (fBu gLen (fCons (fVar 0) fNil)) fNil)))) sNext)
  (sSeq (sFor (iSeq (fVar 0)) (gN 3) (sIf (fOr (fB (fBin gLt (fVar 3) (fC (.int 0)))) (fB (fBin gGt (fVar 3) (fC (.int 99))))) (sRet (fTup (fCons (fC (.str "worth")) (fCons (fVar 3) fNil)))) sNext))
  (sSeq (sIf (fOr (fB (fBin gLt (fVar 1) (fC (.int 1)))) (fB (fBin gGt (fVar 1) (fC (.int 100))))) (sRet (fTup (fCons (fC (.str "scale")) (fCons (fVar 1) fNil)))) sNext)
  (sSeq (sIf (fB (fBin (gEq true) (fBu gLen (fCons (fVar 2) fNil)) (fBu gLen (fCons (fVar 0) fNil)))) (sRet (fTup (fCons (fC (.str "known")) (fCons (fBu gLen (fCons (fVar 2) fNil)) fNil)))) sNext)
  (sSeq (sFor (iSeq (fVar 2)) (gN 4) (sIf (fOr (fB (fBin gLt (fVar 4) (fC (.int 0)))) (fB (fBin gGt (fVar 4) (fC (.int 9999))))) (sRet (fTup (fCons (fC (.str "price")) (fCons (fVar 4) fNil)))) sNext))
  (sRet (fC .non)))))))
def f_l_wrong : Fn := runF (g_l_wrong) 5
def N_l_best : List Str := ["_law_left_here", "_law_known", "_law_best_here", "_law_bid", "_law_k"]
def g_l_best : SF :=
  (sSeq (sAsg (fC (.int 1)) (gN 2))
  (sSeq (sAsg (fC .non) (gN 3))
  (sSeq (sFor (iRevR1 (fBu gLen (fCons (fVar 0) fNil))) (gN 4) (sIf (fB (fBin gGe (fBin gIx (fVar 0) (fVar 4)) (fVar 2))) (sSeq (sAsg (fBin gIx (fVar 0) (fVar 4)) (gN 2))
  (sAsg (fTup (fCons (fVar 4) (fCons (fBin gAdd (fBin gIx (fVar 1) (fVar 4)) (fC (.int 1))) fNil))) (gN 3))) sNext))
  (sRet (fVar 3)))))
def f_l_best : Fn := runF (g_l_best) 5
def N_l_same : List Str := ["_law_actual", "_law_due", "_law_k"]
def g_l_same (rec : Fn) : SF :=
  (sSeq (sIf (fB (fBu (gIsi []) (fCons (fVar 1) (fCons (fC (.ty "tuple")) fNil)))) (sSeq (sIf (fOr (fNot (fB (fBu (gIsi []) (fCons (fVar 0) (fCons (fC (.ty "tuple")) fNil))))) (fB (fBin (gEq true) (fBu gLen (fCons (fVar 0) fNil)) (fBu gLen (fCons (fVar 1) fNil))))) (sRet (fC (.bl false))) sNext)
  (sSeq (sFor (iRng gRng1 (fCons (fBu gLen (fCons (fVar 1) fNil)) fNil)) (gN 2) (sIf (fNot (fB (fCall rec [] (fCons (fBin gIx (fVar 0) (fVar 2)) (fCons (fBin gIx (fVar 1) (fVar 2)) fNil))))) (sRet (fC (.bl false))) sNext))
  (sRet (fC (.bl true))))) sNext)
  (sSeq (sIf (fB (fBin (gIsN false) (fVar 1) (fC .non))) (sRet (fBin (gIsN false) (fVar 0) (fC .non))) sNext)
  (sSeq (sIf (fB (fBu (gIsi []) (fCons (fVar 1) (fCons (fC (.ty "str")) fNil)))) (sRet (fAndV (fBu (gIsi []) (fCons (fVar 0) (fCons (fC (.ty "str")) fNil))) (fBin (gEq false) (fVar 0) (fVar 1)))) sNext)
  (sRet (fAndV (fBu (gIsi []) (fCons (fVar 0) (fCons (fC (.ty "int")) fNil))) (fAndV (fNotV (fBu (gIsi []) (fCons (fVar 0) (fCons (fC (.ty "bool")) fNil)))) (fBin (gEq false) (fVar 0) (fVar 1))))))))
def f_l_same : Nat → Fn
  | 0 => fun _ _ => .bad
  | k + 1 => runF (g_l_same (f_l_same k)) 3
def N_within : List Str := ["what", "value", "least", "most"]
def g_within (c : String → PySem.Addr) : SF :=
  (sIf (fOr (fB (fBin gLt (fVar 1) (fVar 2))) (fB (fBin gGt (fVar 1) (fVar 3)))) (sRaise (c "OutOfRange") (mk2 "what" "value") (fCons (fVar 0) (fCons (fVar 1) fNil))) sNext)
def f_within (c : String → PySem.Addr) : Fn := runF (g_within c) 4
def N_row_scale_look : List Str := ["row", "scale", "worth"]
def g_row_scale_look (c : String → PySem.Addr) : SF :=
  (sSeq (sDrop (fCall (f_within c) [] (fCons (fC (.str "row")) (fCons (fBu gLen (fCons (fVar 0) fNil)) (fCons (fC (.int 1)) (fCons (fC (.int 6)) fNil))))))
  (sSeq (sFor (iSeq (fVar 0)) (gN 2) (sDrop (fCall (f_within c) [] (fCons (fC (.str "worth")) (fCons (fVar 2) (fCons (fC (.int 0)) (fCons (fC (.int 99)) fNil)))))))
  (sSeq (sDrop (fCall (f_within c) [] (fCons (fC (.str "scale")) (fCons (fVar 1) (fCons (fC (.int 1)) (fCons (fC (.int 100)) fNil))))))
  (sRet (fBu gTuple (fCons (fVar 0) fNil))))))
def f_row_scale_look (c : String → PySem.Addr) : Fn := runF (g_row_scale_look c) 3
def N_left_at : List Str := ["row", "scale", "known", "worths", "price", "worth"]
def g_left_at (c : String → PySem.Addr) : SF :=
  (sSeq (sAsg (fCall (f_row_scale_look c) [] (fCons (fVar 0) (fCons (fVar 1) fNil))) (gN 3))
  (sSeq (sDrop (fCall (f_within c) [] (fCons (fC (.str "known")) (fCons (fBu gLen (fCons (fVar 2) fNil)) (fCons (fBu gLen (fCons (fVar 3) fNil)) (fCons (fBu gLen (fCons (fVar 3) fNil)) fNil))))))
  (sSeq (sFor (iSeq (fVar 2)) (gN 4) (sDrop (fCall (f_within c) [] (fCons (fC (.str "price")) (fCons (fVar 4) (fCons (fC (.int 0)) (fCons (fC (.int 9999)) fNil)))))))
  (sRet (fBu gTuple (fCons (fLc (iZip (fCons (fVar 3) (fCons (fVar 2) fNil))) (gTupF 2 (gsCons (gN 5) (gsCons (gN 4) gsNil))) fYes (fBin gSub (fBin gMulA (fVar 1) (fVar 5)) (fVar 4)) [5, 4]) fNil))))))
def f_left_at (c : String → PySem.Addr) : Fn := runF (g_left_at c) 6
def N_choose : List Str := ["row", "scale", "known", "left", "most", "desk"]
def g_choose (c : String → PySem.Addr) : SF :=
  (sSeq (sAsg (fCall (f_left_at c) [] (fCons (fVar 0) (fCons (fVar 1) (fCons (fVar 2) fNil)))) (gN 3))
  (sSeq (sAsg (fBu gMaxT (fCons (fVar 3) fNil)) (gN 4))
  (sSeq (sIf (fB (fBin gLt (fVar 4) (fC (.int 1)))) (sRet (fC .non)) sNext)
  (sSeq (sAsg (fMethS idxS (fVar 3) (fCons (fVar 4) fNil)) (gN 5))
  (sRet (fTup (fCons (fVar 5) (fCons (fBin gAdd (fBin gIx (fVar 2) (fVar 5)) (fC (.int 1))) fNil))))))))
def f_choose (c : String → PySem.Addr) : Fn := runF (g_choose c) 6
def N_l_chosen : List Str := ["_law_row", "_law_scale", "_law_known", "e", "_law_plain"]
def g_l_chosen (c : String → PySem.Addr) : SF :=
  (sTry [(c "OutOfRange", true)] (sRet (fCall (f_choose c) [] (fCons (fVar 0) (fCons (fVar 1) (fCons (fVar 2) fNil))))) 3 (sSeq (sAsg (fAndV (fBu (gIsi [(c "OutOfRange", .inr (c "HeldError"), true)]) (fCons (fVar 3) (fCons (fC (.ref (c "HeldError"))) fNil))) (fBu (gIsi [(c "OutOfRange", .inl "ValueError", true)]) (fCons (fVar 3) (fCons (fC (.ty "ValueError")) fNil)))) (gN 4))
  (sRet (fLst (fCons (fExf [c "OutOfRange"] "what" (fVar 3)) (fCons (fExf [c "OutOfRange"] "value" (fVar 3)) (fCons (fAndV (fVar 4) (fNotV (fBu (gIsT [(c "OutOfRange", .inr (c "Unread"), false), (c "OutOfRange", .inr (c "BadWord"), false), (c "OutOfRange", .inr (c "NoLetter"), false)]) (fCons (fVar 3) (fCons (fTup (fCons (fC (.ref (c "Unread"))) (fCons (fC (.ref (c "BadWord"))) (fCons (fC (.ref (c "NoLetter"))) fNil)))) fNil))))) fNil)))))))
def f_l_chosen (c : String → PySem.Addr) : Fn := runF (g_l_chosen c) 5
def N_l_left : List Str := ["_law_row", "_law_scale", "_law_known", "e", "_law_plain"]
def g_l_left (c : String → PySem.Addr) : SF :=
  (sTry [(c "OutOfRange", true)] (sRet (fCall (f_left_at c) [] (fCons (fVar 0) (fCons (fVar 1) (fCons (fVar 2) fNil))))) 3 (sSeq (sAsg (fAndV (fBu (gIsi [(c "OutOfRange", .inr (c "HeldError"), true)]) (fCons (fVar 3) (fCons (fC (.ref (c "HeldError"))) fNil))) (fBu (gIsi [(c "OutOfRange", .inl "ValueError", true)]) (fCons (fVar 3) (fCons (fC (.ty "ValueError")) fNil)))) (gN 4))
  (sRet (fLst (fCons (fExf [c "OutOfRange"] "what" (fVar 3)) (fCons (fExf [c "OutOfRange"] "value" (fVar 3)) (fCons (fAndV (fVar 4) (fNotV (fBu (gIsT [(c "OutOfRange", .inr (c "Unread"), false), (c "OutOfRange", .inr (c "BadWord"), false), (c "OutOfRange", .inr (c "NoLetter"), false)]) (fCons (fVar 3) (fCons (fTup (fCons (fC (.ref (c "Unread"))) (fCons (fC (.ref (c "BadWord"))) (fCons (fC (.ref (c "NoLetter"))) fNil)))) fNil))))) fNil)))))))
def f_l_left (c : String → PySem.Addr) : Fn := runF (g_l_left c) 5
def N_l_answers_hold : List Str := ["_law_row", "_law_scale", "_law_known", "_law_left_here", "_law_bid", "_law_handed", "_law_k"]
def g_l_answers_hold (c : String → PySem.Addr) : SF :=
  (sSeq (sAsg (fLcL (iRng gRng1 (fCons (fBu gLen (fCons (fVar 0) fNil)) fNil)) (gN 6) fYes (fBin gSub (fBin gMulA (fVar 1) (fBin gIx (fVar 0) (fVar 6))) (fBin gIx (fVar 2) (fVar 6))) [6]) (gN 3))
  (sSeq (sAsg (fCall f_l_best [] (fCons (fVar 3) (fCons (fVar 2) fNil))) (gN 4))
  (sSeq (sAsg (fLst (fCons (fBuL gList (fCons (fVar 0) fNil)) (fCons (fBuL gList (fCons (fVar 2) fNil)) fNil))) (gN 5))
  (sSeq (sFor (iSeq (fLst (fCons (fC (.int 0)) (fCons (fC (.int 1)) fNil)))) (gN 6) (sSeq (sIf (fNot (fB (fCall (f_l_same 6) [] (fCons (fCall (f_l_left c) [] (fCons (fBin gIx (fVar 5) (fC (.int 0))) (fCons (fVar 1) (fCons (fBin gIx (fVar 5) (fC (.int 1))) fNil)))) (fCons (fBu gTuple (fCons (fVar 3) fNil)) fNil))))) (sRet (fC (.bl false))) sNext)
  (sIf (fNot (fB (fCall (f_l_same 6) [] (fCons (fCall (f_l_chosen c) [] (fCons (fBin gIx (fVar 5) (fC (.int 0))) (fCons (fVar 1) (fCons (fBin gIx (fVar 5) (fC (.int 1))) fNil)))) (fCons (fVar 4) fNil))))) (sRet (fC (.bl false))) sNext)))
  (sSeq (sIf (fB (fBin (gEq true) (fVar 5) (fLst (fCons (fVar 0) (fCons (fVar 2) fNil))))) (sRet (fC (.bl false))) sNext)
  (sSeq (sIf (fNot (fB (fCall (f_l_same 6) [] (fCons (fCall (f_l_left c) [] (fCons (fBu gTuple (fCons (fVar 0) fNil)) (fCons (fVar 1) (fCons (fBu gTuple (fCons (fVar 2) fNil)) fNil)))) (fCons (fBu gTuple (fCons (fVar 3) fNil)) fNil))))) (sRet (fC (.bl false))) sNext)
  (sSeq (sIf (fNot (fB (fCall (f_l_same 6) [] (fCons (fCall (f_l_chosen c) [] (fCons (fBu gTuple (fCons (fVar 0) fNil)) (fCons (fVar 1) (fCons (fBu gTuple (fCons (fVar 2) fNil)) fNil)))) (fCons (fVar 4) fNil))))) (sRet (fC (.bl false))) sNext)
  (sSeq (sSetI (fBin gSub (fC (.int 99)) (fBin gIx (fVar 0) (fC (.int 0)))) (fBin gIx (fVar 5) (fC (.int 0))) (fC (.int 0)))
  (sSeq (sSetI (fBin gSub (fBin gMulA (fVar 1) (fBin gIx (fBin gIx (fVar 5) (fC (.int 0))) (fC (.int 0)))) (fBin gIx (fVar 2) (fC (.int 0)))) (fVar 3) (fC (.int 0)))
  (sSeq (sAsg (fCall f_l_best [] (fCons (fVar 3) (fCons (fVar 2) fNil))) (gN 4))
  (sSeq (sIf (fNot (fB (fCall (f_l_same 6) [] (fCons (fCall (f_l_left c) [] (fCons (fBin gIx (fVar 5) (fC (.int 0))) (fCons (fVar 1) (fCons (fBin gIx (fVar 5) (fC (.int 1))) fNil)))) (fCons (fBu gTuple (fCons (fVar 3) fNil)) fNil))))) (sRet (fC (.bl false))) sNext)
  (sRet (fCall (f_l_same 6) [] (fCons (fCall (f_l_chosen c) [] (fCons (fBin gIx (fVar 5) (fC (.int 0))) (fCons (fVar 1) (fCons (fBin gIx (fVar 5) (fC (.int 1))) fNil)))) (fCons (fVar 4) fNil)))))))))))))))
def f_l_answers_hold (c : String → PySem.Addr) : Fn := runF (g_l_answers_hold c) 7
def m_l_answers_hold (c : String → PySem.Addr) : Fn := fz (f_l_answers_hold c)
def N_l_refused : List Str := ["_law_actual", "_law_what", "_law_number"]
def g_l_refused : SF :=
  (sSeq (sIf (fOr (fNot (fB (fBu (gIsi []) (fCons (fVar 0) (fCons (fC (.ty "list")) fNil))))) (fB (fBin (gEq true) (fBu gLen (fCons (fVar 0) fNil)) (fC (.int 3))))) (sRet (fC (.bl false))) sNext)
  (sSeq (sIf (fOr (fNot (fB (fCall (f_l_same 6) [] (fCons (fBin gIx (fVar 0) (fC (.int 0))) (fCons (fVar 1) fNil))))) (fNot (fB (fCall (f_l_same 6) [] (fCons (fBin gIx (fVar 0) (fC (.int 1))) (fCons (fVar 2) fNil)))))) (sRet (fC (.bl false))) sNext)
  (sRet (fBin (gIsB false) (fBin gIx (fVar 0) (fC (.int 2))) (fC (.bl true))))))
def f_l_refused : Fn := runF (g_l_refused) 3
def N_l_odd_holds : List Str := ["_law_row", "_law_scale", "_law_known", "_law_fault", "_law_handed"]
def g_l_odd_holds (c : String → PySem.Addr) : SF :=
  (sSeq (sAsg (fCall f_l_wrong [] (fCons (fVar 0) (fCons (fVar 1) (fCons (fVar 2) fNil)))) (gN 3))
  (sSeq (sIf (fB (fBin (gIsN false) (fVar 3) (fC .non))) (sRet (fCall (m_l_answers_hold c) [] (fCons (fVar 0) (fCons (fVar 1) (fCons (fVar 2) fNil))))) sNext)
  (sSeq (sAsg (fLst (fCons (fBu (fun S ds => (gList S ds).map .lst) (fCons (fVar 0) fNil)) (fCons (fBu (fun S ds => (gList S ds).map .lst) (fCons (fVar 2) fNil)) fNil))) (gN 4))
  (sSeq (sIf (fNot (fB (fCall f_l_refused [] (fCons (fCall (f_l_left c) [] (fCons (fBin gIx (fVar 4) (fC (.int 0))) (fCons (fVar 1) (fCons (fBin gIx (fVar 4) (fC (.int 1))) fNil)))) (fCons (fBin gIx (fVar 3) (fC (.int 0))) (fCons (fBin gIx (fVar 3) (fC (.int 1))) fNil)))))) (sRet (fC (.bl false))) sNext)
  (sSeq (sIf (fNot (fB (fCall f_l_refused [] (fCons (fCall (f_l_chosen c) [] (fCons (fBin gIx (fVar 4) (fC (.int 0))) (fCons (fVar 1) (fCons (fBin gIx (fVar 4) (fC (.int 1))) fNil)))) (fCons (fBin gIx (fVar 3) (fC (.int 0))) (fCons (fBin gIx (fVar 3) (fC (.int 1))) fNil)))))) (sRet (fC (.bl false))) sNext)
  (sRet (fBin (gEq false) (fVar 4) (fLst (fCons (fVar 0) (fCons (fVar 2) fNil))))))))))
def f_l_odd_holds (c : String → PySem.Addr) : Fn := runF (g_l_odd_holds c) 5
def N_l_refusals_hold : List Str := ["_law_pool", "_law_case_here", "_law_way", "_law_odd", "_law_other"]
def g_l_refusals_hold (c : String → PySem.Addr) : SF :=
  (sSeq (sFor (iRng gRng1 (fCons (fC (.int 11)) fNil)) (gN 2) (sSeq (sAsg (fCall m_l_bent [] (fCons (fVar 1) (fCons (fVar 2) (fCons (fCall f_l_draw [] (fCons (fVar 0) (fCons (fC (.int 6)) fNil))) (fCons (fCall f_l_draw [] (fCons (fVar 0) (fCons (fC (.int 9)) fNil))) fNil))))) (gN 3))
  (sSeq (sIf (fNot (fB (fCall (f_l_odd_holds c) [] (fCons (fBin gIx (fVar 3) (fC (.int 0))) (fCons (fBin gIx (fVar 3) (fC (.int 1))) (fCons (fBin gIx (fVar 3) (fC (.int 2))) fNil)))))) (sRet (fC (.bl false))) sNext)
  (sSeq (sAsg (fBin gMod (fBu gInt (fCons (fBin gAdd (fBin gAdd (fBin gMulA (fC (.int 5)) (fVar 2)) (fC (.int 3))) (fCall f_l_draw [] (fCons (fVar 0) (fCons (fC (.int 11)) fNil)))) fNil)) (fC (.int 11))) (gN 4))
  (sSeq (sAsg (fCall m_l_bent [] (fCons (fVar 3) (fCons (fVar 4) (fCons (fCall f_l_draw [] (fCons (fVar 0) (fCons (fC (.int 6)) fNil))) (fCons (fCall f_l_draw [] (fCons (fVar 0) (fCons (fC (.int 9)) fNil))) fNil))))) (gN 3))
  (sIf (fNot (fB (fCall (f_l_odd_holds c) [] (fCons (fBin gIx (fVar 3) (fC (.int 0))) (fCons (fBin gIx (fVar 3) (fC (.int 1))) (fCons (fBin gIx (fVar 3) (fC (.int 2))) fNil)))))) (sRet (fC (.bl false))) sNext))))))
  (sRet (fC (.bl true))))
def f_l_refusals_hold (c : String → PySem.Addr) : Fn := runF (g_l_refusals_hold c) 5
def N_law : List Str := ["_law_script", "_law_pool", "_law_cases", "_law_case_here", "_law_cell", "_law_plain"]
def g_law (c : String → PySem.Addr) : SF :=
  (sSeq (sAsg (fBu (fun S ds => (gList S ds).map .lst) (fCons (fSlG gSl (fVar 0) fNoP (fPart (fC (.int 63)))) fNil)) (gN 0))
  (sSeq (sAsg (fLcL (iRevD (fVar 0)) (gN 4) fYes (fBu gAbs (fCons (fVar 4) fNil)) [4]) (gN 1))
  (sSeq (sAsg (fLc (iSeq (fLst (fCons (fC (.int 0)) (fCons (fC (.int 5)) (fCons (fC (.int 2)) (fCons (fC (.int 3)) fNil)))))) (gN 5) fYes (fCall m_l_case [] (fCons (fVar 1) (fCons (fVar 5) fNil))) [5]) (gN 2))
  (sSeq (sFor (iSeq (fBin gAdd (fVar 2) (fLst (fCons (fBin gIx (fVar 2) (fC (.int 0))) fNil)))) (gN 3) (sIf (fNot (fB (fCall (m_l_answers_hold c) [] (fCons (fBin gIx (fVar 3) (fC (.int 0))) (fCons (fBin gIx (fVar 3) (fC (.int 1))) (fCons (fBin gIx (fVar 3) (fC (.int 2))) fNil)))))) (sRet (fC (.bl false))) sNext))
  (sRet (fAndV (fCall (f_l_refusals_hold c) [] (fCons (fVar 1) (fCons (fBin gIx (fVar 2) (fC (.int 1))) fNil))) (fCall (f_l_refusals_hold c) [] (fCons (fVar 1) (fCons (fBin gIx (fVar 2) (fC (.int 0))) fNil)))))))))
def f_law (c : String → PySem.Addr) : Fn := runF (g_law c) 6
end K51
set_option maxRecDepth 100000
set_option maxHeartbeats 2000000
namespace K51
open PySem PySem.Spec PyProof.Rows L2 FL
abbrev FnP (K : PySem.W.Frag) (x : Str) (st : Stmt) (f : PySem.Addr) (fd : FuncData) : Prop := FunD K x x (defArgs st) (defBody st) (defScope st) [] [] f fd
structure Hs (P : Program) (w : World) (K : PySem.W.Frag) (mg : Str → Option Value) where
  c : String → PySem.Addr
  f_l_draw : PySem.Addr
  fd_l_draw : FuncData
  F_l_draw : FunD K "_law_draw" "_law_draw" (defArgs s_l_draw) (defBody s_l_draw) (defScope s_l_draw) [] [] f_l_draw fd_l_draw
  g_l_draw : mg "_law_draw" = some (.ref f_l_draw)
  f_l_measure : PySem.Addr
  fd_l_measure : FuncData
  F_l_measure : FunD K "_law_measure" "_law_measure" (defArgs s_l_measure) (defBody s_l_measure) (defScope s_l_measure) [] [] f_l_measure fd_l_measure
  g_l_measure : mg "_law_measure" = some (.ref f_l_measure)
  f_l_cost : PySem.Addr
  fd_l_cost : FuncData
  F_l_cost : FunD K "_law_cost" "_law_cost" (defArgs s_l_cost) (defBody s_l_cost) (defScope s_l_cost) [] [] f_l_cost fd_l_cost
  g_l_cost : mg "_law_cost" = some (.ref f_l_cost)
  f_l_case : PySem.Addr
  fd_l_case : FuncData
  F_l_case : FunD K "_law_case" "_law_case" (defArgs s_l_case) (defBody s_l_case) (defScope s_l_case) [] [] f_l_case fd_l_case
  g_l_case : mg "_law_case" = some (.ref f_l_case)
  f_l_bent : PySem.Addr
  fd_l_bent : FuncData
  F_l_bent : FunD K "_law_bent" "_law_bent" (defArgs s_l_bent) (defBody s_l_bent) (defScope s_l_bent) [] [] f_l_bent fd_l_bent
  g_l_bent : mg "_law_bent" = some (.ref f_l_bent)
  f_l_wrong : PySem.Addr
  fd_l_wrong : FuncData
  F_l_wrong : FunD K "_law_wrong" "_law_wrong" (defArgs s_l_wrong) (defBody s_l_wrong) (defScope s_l_wrong) [] [] f_l_wrong fd_l_wrong
  g_l_wrong : mg "_law_wrong" = some (.ref f_l_wrong)
  f_l_best : PySem.Addr
  fd_l_best : FuncData
  F_l_best : FunD K "_law_best" "_law_best" (defArgs s_l_best) (defBody s_l_best) (defScope s_l_best) [] [] f_l_best fd_l_best
  g_l_best : mg "_law_best" = some (.ref f_l_best)
  f_l_same : PySem.Addr
  fd_l_same : FuncData
  F_l_same : FunD K "_law_same" "_law_same" (defArgs s_l_same) (defBody s_l_same) (defScope s_l_same) [] [] f_l_same fd_l_same
  g_l_same : mg "_law_same" = some (.ref f_l_same)
  f_within : PySem.Addr
  fd_within : FuncData
  F_within : FunD K "within" "within" (defArgs s_within) (defBody s_within) (defScope s_within) [] [] f_within fd_within
  g_within : mg "within" = some (.ref f_within)
  f_row_scale_look : PySem.Addr
  fd_row_scale_look : FuncData
  F_row_scale_look : FunD K "row_scale_look" "row_scale_look" (defArgs s_row_scale_look) (defBody s_row_scale_look) (defScope s_row_scale_look) [] [] f_row_scale_look fd_row_scale_look
  g_row_scale_look : mg "row_scale_look" = some (.ref f_row_scale_look)
  f_left_at : PySem.Addr
  fd_left_at : FuncData
  F_left_at : FunD K "left_at" "left_at" (defArgs s_left_at) (defBody s_left_at) (defScope s_left_at) [] [] f_left_at fd_left_at
  g_left_at : mg "left_at" = some (.ref f_left_at)
  f_choose : PySem.Addr
  fd_choose : FuncData
  F_choose : FunD K "choose" "choose" (defArgs s_choose) (defBody s_choose) (defScope s_choose) [] [] f_choose fd_choose
  g_choose : mg "choose" = some (.ref f_choose)
  f_l_chosen : PySem.Addr
  fd_l_chosen : FuncData
  F_l_chosen : FunD K "_law_chosen" "_law_chosen" (defArgs s_l_chosen) (defBody s_l_chosen) (defScope s_l_chosen) [] [] f_l_chosen fd_l_chosen
  g_l_chosen : mg "_law_chosen" = some (.ref f_l_chosen)
  f_l_left : PySem.Addr
  fd_l_left : FuncData
  F_l_left : FunD K "_law_left" "_law_left" (defArgs s_l_left) (defBody s_l_left) (defScope s_l_left) [] [] f_l_left fd_l_left
  g_l_left : mg "_law_left" = some (.ref f_l_left)
  f_l_answers_hold : PySem.Addr
  fd_l_answers_hold : FuncData
  F_l_answers_hold : FunD K "_law_answers_hold" "_law_answers_hold" (defArgs s_l_answers_hold) (defBody s_l_answers_hold) (defScope s_l_answers_hold) [] [] f_l_answers_hold fd_l_answers_hold
  g_l_answers_hold : mg "_law_answers_hold" = some (.ref f_l_answers_hold)
  f_l_refused : PySem.Addr
  fd_l_refused : FuncData
  F_l_refused : FunD K "_law_refused" "_law_refused" (defArgs s_l_refused) (defBody s_l_refused) (defScope s_l_refused) [] [] f_l_refused fd_l_refused
  g_l_refused : mg "_law_refused" = some (.ref f_l_refused)
  f_l_odd_holds : PySem.Addr
  fd_l_odd_holds : FuncData
  F_l_odd_holds : FunD K "_law_odd_holds" "_law_odd_holds" (defArgs s_l_odd_holds) (defBody s_l_odd_holds) (defScope s_l_odd_holds) [] [] f_l_odd_holds fd_l_odd_holds
  g_l_odd_holds : mg "_law_odd_holds" = some (.ref f_l_odd_holds)
  f_l_refusals_hold : PySem.Addr
  fd_l_refusals_hold : FuncData
  F_l_refusals_hold : FunD K "_law_refusals_hold" "_law_refusals_hold" (defArgs s_l_refusals_hold) (defBody s_l_refusals_hold) (defScope s_l_refusals_hold) [] [] f_l_refusals_hold fd_l_refusals_hold
  g_l_refusals_hold : mg "_law_refusals_hold" = some (.ref f_l_refusals_hold)
  f_law : PySem.Addr
  fd_law : FuncData
  F_law : FunD K "law" "law" (defArgs s_law) (defBody s_law) (defScope s_law) [] [] f_law fd_law
  g_law : mg "law" = some (.ref f_law)
  n_ValueError : mg "ValueError" = none
  n_abs : mg "abs" = none
  n_bool : mg "bool" = none
  n_int : mg "int" = none
  n_isinstance : mg "isinstance" = none
  n_len : mg "len" = none
  n_list : mg "list" = none
  n_max : mg "max" = none
  n_range : mg "range" = none
  n_reversed : mg "reversed" = none
  n_str : mg "str" = none
  n_tuple : mg "tuple" = none
  n_zip : mg "zip" = none
  i_MOST_DESKS : ∃ t, mg "MOST_DESKS" = some (.int 6 t)
  i_MOST_WORTH : ∃ t, mg "MOST_WORTH" = some (.int 99 t)
  i_MOST_PRICE : ∃ t, mg "MOST_PRICE" = some (.int 9999 t)
  i_MOST_SCALE : ∃ t, mg "MOST_SCALE" = some (.int 100 t)
  gc_OutOfRange : mg "OutOfRange" = some (.ref (c "OutOfRange"))
  gc_HeldError : mg "HeldError" = some (.ref (c "HeldError"))
  gc_Unread : mg "Unread" = some (.ref (c "Unread"))
  gc_BadWord : mg "BadWord" = some (.ref (c "BadWord"))
  gc_NoLetter : mg "NoLetter" = some (.ref (c "NoLetter"))
  j_OutOfRange : PySem.Addr
  jd_OutOfRange : FuncData
  J_OutOfRange : FunD K "__init__" "OutOfRange.__init__" (defArgs si_OutOfRange) (defBody si_OutOfRange) (defScope si_OutOfRange) [] [] j_OutOfRange jd_OutOfRange
  e_OutOfRange : ErrC K mg "OutOfRange" (c "OutOfRange") j_OutOfRange
  ex_OutOfRange : L2.ExcC K (c "OutOfRange")
  cl_OutOfRange : (PySem.W.clsIn K (c "OutOfRange")).isSome = true
  xf_OutOfRange : XfC K (c "OutOfRange")
  no_OutOfRange_what : PySem.W.findIn K (.ref (c "OutOfRange")) "what" = some none
  no_OutOfRange_value : PySem.W.findIn K (.ref (c "OutOfRange")) "value" = some none
  k_OutOfRange_BadWord : PySem.W.kitOne K (.ref (c "OutOfRange")) (.ref (c "BadWord")) = some false
  k_OutOfRange_HeldError : PySem.W.kitOne K (.ref (c "OutOfRange")) (.ref (c "HeldError")) = some true
  k_OutOfRange_NoLetter : PySem.W.kitOne K (.ref (c "OutOfRange")) (.ref (c "NoLetter")) = some false
  k_OutOfRange_Unread : PySem.W.kitOne K (.ref (c "OutOfRange")) (.ref (c "Unread")) = some false
  k_OutOfRange_ValueError : PySem.W.kitOne K (.ref (c "OutOfRange")) (.type "ValueError") = some true
  x_OutOfRange_OutOfRange : PySem.W.exmOne K (.ref (c "OutOfRange")) (.ref (c "OutOfRange")) = some true
section
variable {P : Program} {w : World} {K : PySem.W.Frag} {mg : Str → Option Value} {base : Heap}
theorem si_sc_OutOfRange : FnScope ["self", "what", "value"] ["self", "what", "value"] (defScope si_OutOfRange) := ⟨rfl, rfl, rfl, by decide +kernel, rfl, by decide +kernel, by decide +kernel⟩
theorem ini_OutOfRange (h : Hs P w K mg) : FnOk P w K mg base CX0 1 h.j_OutOfRange h.jd_OutOfRange ["self", "what", "value"] (spIni2 (h.c "OutOfRange") "what" "value") :=
  ok_ini2 h.J_OutOfRange si_sc_OutOfRange h.e_OutOfRange.oex h.no_OutOfRange_what h.no_OutOfRange_value (Or.inl rfl) (Or.inl rfl) (Or.inl rfl) (by decide) (by decide) (by decide) (by decide) (by decide) (by decide)
theorem bi_OutOfRange (h : Hs P w K mg) : Binds K h.jd_OutOfRange ["self", "what", "value"] [] := h.J_OutOfRange.bindsN fun _ _ _ _ _ _ us hl => match us, hl with | [_, _, _], _ => rfl
theorem nd_l_draw : N_l_draw.Nodup := by decide +kernel
theorem sc_l_draw : FnScope N_l_draw ["_law_pool", "_law_many"] (defScope s_l_draw) := ⟨rfl, rfl, rfl, by decide +kernel, rfl, by decide +kernel, by decide +kernel⟩
theorem b_l_draw (h : Hs P w K mg) : Binds K h.fd_l_draw ["_law_pool", "_law_many"] [] := h.F_l_draw.bindsN fun _ _ _ _ _ _ us hl => match us, hl with | [_, _], _ => rfl
theorem ok_l_draw (h : Hs P w K mg) : FnOk P w K mg base (L2.CX P w) 1 h.f_l_draw h.fd_l_draw ["_law_pool", "_law_many"] (spF K 2 (f_l_draw)) :=
  fn_okF h.F_l_draw sc_l_draw fun cdv A outer s H E hr => by
  have nd := nd_l_draw
  have hu := hr.units
  have tk := tk_cx (P := P) (w := w) (K := K) (mg := mg) (base := base) (N := N_l_draw) (qual := "_law_draw") (scope := defScope s_l_draw) (f := h.f_l_draw) (cd := cdv) (A := A) (outer := outer) (s := s) (H := H) (E := E)
  have own := own_cx (P := P) (w := w) (K := K) (mg := mg) (base := base) (N := N_l_draw) (qual := "_law_draw") (scope := defScope s_l_draw) (f := h.f_l_draw) (cd := cdv) (A := A) (outer := outer) (s := s) (H := H) (E := E)
  exact (fs_cons (fs_if (ft_cmp (op_eqD hu) (nomark _) sim_eq (fe_var (pv 0)) (fe_lst fa_nil)) (fs_one (fs_ret fe_int)) fs_nil)
      (fs_cons (fs_set (i := 2) nd rfl (Or.inl rfl) (fe_mut0 rfl mt_pop sim_pop PySem.F.slot_list_pop PySem.F.type_list_pop (fe_var (pv 0))))
      (fs_cons (fs_if (ft_cmp op_ge (nomark _) sim_ge (fe_var (pv 2)) (fe_var (pv 1))) (fs_one (fs_expr (fe_mut rfl mt_append sim_append PySem.F.slot_list_append PySem.F.type_list_append (fe_var (pv 0)) (fa_cons (fe_op op_fdiv sim_div (fe_var (pv 2)) (fe_var (pv 1))) fa_nil)))) fs_nil)
      (fs_one (fs_ret (fe_op op_mod sim_mod (fe_ty call_int1 sim_int (by rfl) h.n_int PyProof.Rows.Boot.«int» (fa_cons (fe_var (pv 2)) fa_nil)) (fe_var (pv 1))))))))
theorem nd_l_measure : N_l_measure.Nodup := by decide +kernel
theorem sc_l_measure : FnScope N_l_measure ["_law_pool"] (defScope s_l_measure) := ⟨rfl, rfl, rfl, by decide +kernel, rfl, by decide +kernel, by decide +kernel⟩
theorem b_l_measure (h : Hs P w K mg) : Binds K h.fd_l_measure ["_law_pool"] [] := h.F_l_measure.bindsN fun _ _ _ _ _ _ us hl => match us, hl with | [_], _ => rfl
theorem ok_l_measure (h : Hs P w K mg) : FnOk P w K mg base (L2.CX P w) 2 h.f_l_measure h.fd_l_measure ["_law_pool"] (spF K 1 (f_l_measure)) :=
  fn_okF h.F_l_measure sc_l_measure fun cdv A outer s H E hr => by
  have nd := nd_l_measure
  have hu := hr.units
  have tk := tk_cx (P := P) (w := w) (K := K) (mg := mg) (base := base) (N := N_l_measure) (qual := "_law_measure") (scope := defScope s_l_measure) (f := h.f_l_measure) (cd := cdv) (A := A) (outer := outer) (s := s) (H := H) (E := E)
  have own := own_cx (P := P) (w := w) (K := K) (mg := mg) (base := base) (N := N_l_measure) (qual := "_law_measure") (scope := defScope s_l_measure) (f := h.f_l_measure) (cd := cdv) (A := A) (outer := outer) (s := s) (H := H) (E := E)
  exact (fs_cons (fs_set (i := 1) nd rfl (Or.inl rfl) (fe_call rfl ((ok_l_draw h).mono (by decide)) hr (by rfl) h.g_l_draw h.F_l_draw.kp (b_l_draw h) .nil Dfl.nil tk (fa_cons (fe_var (pv 0)) (fa_cons fe_int fa_nil))))
      (fs_cons (fs_if (ft_cmp (op_eqD hu) (nomark _) sim_eq (fe_var (pv 1)) fe_int) (fs_one (fs_ret fe_int)) fs_nil)
      (fs_cons (fs_if (ft_cmp (op_eqD hu) (nomark _) sim_eq (fe_var (pv 1)) fe_int) (fs_one (fs_ret fe_int)) fs_nil)
      (fs_one (fs_ret (fe_op op_addA sim_add fe_int (fe_op op_mod sim_mod (fe_ty call_int1 sim_int (by rfl) h.n_int PyProof.Rows.Boot.«int» (fa_cons (fe_op op_addA sim_add fe_int (fe_call rfl ((ok_l_draw h).mono (by decide)) hr (by rfl) h.g_l_draw h.F_l_draw.kp (b_l_draw h) .nil Dfl.nil tk (fa_cons (fe_var (pv 0)) (fa_cons fe_int fa_nil)))) fa_nil)) fe_int)))))))
theorem nd_l_cost : N_l_cost.Nodup := by decide +kernel
theorem sc_l_cost : FnScope N_l_cost ["_law_pool", "_law_mode", "_law_weight", "_law_common", "_law_k"] (defScope s_l_cost) := ⟨rfl, rfl, rfl, by decide +kernel, rfl, by decide +kernel, by decide +kernel⟩
theorem b_l_cost (h : Hs P w K mg) : Binds K h.fd_l_cost ["_law_pool", "_law_mode", "_law_weight", "_law_common", "_law_k"] [] := h.F_l_cost.bindsN fun _ _ _ _ _ _ us hl => match us, hl with | [_, _, _, _, _], _ => rfl
theorem ok_l_cost (h : Hs P w K mg) : FnOk P w K mg base (L2.CX P w) 2 h.f_l_cost h.fd_l_cost ["_law_pool", "_law_mode", "_law_weight", "_law_common", "_law_k"] (spF K 5 (f_l_cost)) :=
  fn_okF h.F_l_cost sc_l_cost fun cdv A outer s H E hr => by
  have nd := nd_l_cost
  have hu := hr.units
  have tk := tk_cx (P := P) (w := w) (K := K) (mg := mg) (base := base) (N := N_l_cost) (qual := "_law_cost") (scope := defScope s_l_cost) (f := h.f_l_cost) (cd := cdv) (A := A) (outer := outer) (s := s) (H := H) (E := E)
  have own := own_cx (P := P) (w := w) (K := K) (mg := mg) (base := base) (N := N_l_cost) (qual := "_law_cost") (scope := defScope s_l_cost) (f := h.f_l_cost) (cd := cdv) (A := A) (outer := outer) (s := s) (H := H) (E := E)
  exact (fs_cons (fs_if (ft_cmp (op_eqD hu) (nomark _) sim_eq (fe_var (pv 1)) fe_int) (fs_one (fs_ret (fe_bu (call_max2 rfl) sim_i2 (by rfl) h.n_max PyProof.Rows.Boot.«max» (fa_cons fe_int (fa_cons (fe_op op_sub sim_sub (fe_var (pv 2)) (fe_var (pv 3))) fa_nil))))) fs_nil)
      (fs_cons (fs_if (ft_cmp (op_eqD hu) (nomark _) sim_eq (fe_var (pv 1)) fe_int) (fs_one (fs_ret (fe_op op_addA sim_add (fe_var (pv 2)) (fe_call rfl ((ok_l_draw h).mono (by decide)) hr (by rfl) h.g_l_draw h.F_l_draw.kp (b_l_draw h) .nil Dfl.nil tk (fa_cons (fe_var (pv 0)) (fa_cons fe_int fa_nil)))))) fs_nil)
      (fs_cons (fs_if (ft_cmp (op_eqD hu) (nomark _) sim_eq (fe_var (pv 1)) fe_int) (fs_one (fs_ret (fe_call rfl ((ok_l_draw h).mono (by decide)) hr (by rfl) h.g_l_draw h.F_l_draw.kp (b_l_draw h) .nil Dfl.nil tk (fa_cons (fe_var (pv 0)) (fa_cons fe_int fa_nil))))) fs_nil)
      (fs_cons (fs_set (i := 5) nd rfl (Or.inl rfl) (fe_op op_mod sim_mod (fe_ty call_int1 sim_int (by rfl) h.n_int PyProof.Rows.Boot.«int» (fa_cons (fe_op op_addA sim_add (fe_var (pv 4)) (fe_call rfl ((ok_l_draw h).mono (by decide)) hr (by rfl) h.g_l_draw h.F_l_draw.kp (b_l_draw h) .nil Dfl.nil tk (fa_cons (fe_var (pv 0)) (fa_cons fe_int fa_nil)))) fa_nil)) fe_int))
      (fs_cons (fs_if (ft_cmp (op_eqD hu) (nomark _) sim_eq (fe_var (pv 5)) fe_int) (fs_one (fs_ret (fe_call rfl ((ok_l_draw h).mono (by decide)) hr (by rfl) h.g_l_draw h.F_l_draw.kp (b_l_draw h) .nil Dfl.nil tk (fa_cons (fe_var (pv 0)) (fa_cons fe_int fa_nil))))) fs_nil)
      (fs_cons (fs_if (ft_cmp (op_eqD hu) (nomark _) sim_eq (fe_var (pv 5)) fe_int) (fs_one (fs_ret (fe_var (pv 2)))) fs_nil)
      (fs_cons (fs_if (ft_cmp (op_eqD hu) (nomark _) sim_eq (fe_var (pv 5)) fe_int) (fs_one (fs_ret (fe_bu (call_max2 rfl) sim_i2 (by rfl) h.n_max PyProof.Rows.Boot.«max» (fa_cons fe_int (fa_cons (fe_op op_sub sim_sub (fe_var (pv 2)) fe_int) fa_nil))))) fs_nil)
      (fs_one (fs_ret (fe_bu (call_max2 rfl) sim_i2 (by rfl) h.n_max PyProof.Rows.Boot.«max» (fa_cons fe_int (fa_cons (fe_op op_sub sim_sub (fe_var (pv 2)) (fe_var (pv 3))) fa_nil))))))))))))
theorem nd_l_case : N_l_case.Nodup := by decide +kernel
theorem sc_l_case : FnScope N_l_case ["_law_pool", "_law_plain"] (defScope s_l_case) := ⟨rfl, rfl, rfl, by decide +kernel, rfl, by decide +kernel, by decide +kernel⟩
theorem b_l_case (h : Hs P w K mg) : Binds K h.fd_l_case ["_law_pool", "_law_plain"] [] := h.F_l_case.bindsN fun _ _ _ _ _ _ us hl => match us, hl with | [_, _], _ => rfl
theorem raw_l_case (h : Hs P w K mg) : FnOk P w K mg base (L2.CX P w) 3 h.f_l_case h.fd_l_case ["_law_pool", "_law_plain"] (spF K 2 (f_l_case)) :=
  fn_okF h.F_l_case sc_l_case fun cdv A outer s H E hr => by
  have nd := nd_l_case
  have hu := hr.units
  have tk := tk_cx (P := P) (w := w) (K := K) (mg := mg) (base := base) (N := N_l_case) (qual := "_law_case") (scope := defScope s_l_case) (f := h.f_l_case) (cd := cdv) (A := A) (outer := outer) (s := s) (H := H) (E := E)
  have own := own_cx (P := P) (w := w) (K := K) (mg := mg) (base := base) (N := N_l_case) (qual := "_law_case") (scope := defScope s_l_case) (f := h.f_l_case) (cd := cdv) (A := A) (outer := outer) (s := s) (H := H) (E := E)
  exact (fs_cons (fs_set (i := 2) nd rfl (Or.inr rfl) fe_int)
      (fs_cons (fs_if (ft_cmp (op_eqD hu) (nomark _) sim_eq (fe_call rfl ((ok_l_draw h).mono (by decide)) hr (by rfl) h.g_l_draw h.F_l_draw.kp (b_l_draw h) .nil Dfl.nil tk (fa_cons (fe_var (pv 0)) (fa_cons fe_int fa_nil))) fe_int) (fs_one (fs_set (i := 2) nd rfl (Or.inr rfl) fe_int)) fs_nil)
      (fs_cons (fs_set (i := 3) nd rfl (Or.inl rfl) (fe_op op_addA sim_add fe_int (fe_op op_mod sim_mod (fe_ty call_int1 sim_int (by rfl) h.n_int PyProof.Rows.Boot.«int» (fa_cons (fe_op op_addA sim_add (fe_var (pv 1)) (fe_call rfl ((ok_l_draw h).mono (by decide)) hr (by rfl) h.g_l_draw h.F_l_draw.kp (b_l_draw h) .nil Dfl.nil tk (fa_cons (fe_var (pv 0)) (fa_cons fe_int fa_nil)))) fa_nil)) fe_int)))
      (fs_cons (fs_setLc (i := 4) (own := [("_law_k", 9)]) rfl nd rfl rfl (sw_true rfl rfl rfl (by decide +kernel)) (fi_range1 (by rfl) h.n_range (fa_cons (fe_var (pv 3)) fa_nil)) (blkOk_by (N := N_l_case) (sc := defScope s_l_case) (by decide +kernel)) (fun _ _ _ _ _ => (fgv_name (i := 9) (by decide) nd rfl (Or.inl rfl))) (fun _ _ _ _ _ => fts_nil) (fun _ _ _ _ _ => (fe_op op_mod sim_mod (fe_ty call_int1 sim_int (by rfl) h.n_int PyProof.Rows.Boot.«int» (fa_cons (fe_op op_addA sim_add (fe_op op_addA sim_add fe_int (fe_op op_mulA sim_mulA fe_int (fe_var (pv 9)))) (fe_call rfl ((ok_l_draw h).mono (by decide)) hr (by rfl) h.g_l_draw h.F_l_draw.kp (b_l_draw h) .nil Dfl.nil tkF (fa_cons (fe_var (pv 0)) (fa_cons (fe_var (pv 2)) fa_nil)))) fa_nil)) (fe_var (pv 2)))))
      (fs_cons (fs_set (i := 5) nd rfl (Or.inl rfl) (fe_call rfl ((ok_l_measure h).mono (by decide)) hr (by rfl) h.g_l_measure h.F_l_measure.kp (b_l_measure h) .nil Dfl.nil tk (fa_cons (fe_var (pv 0)) fa_nil)))
      (fs_cons (fs_set (i := 6) nd rfl (Or.inl rfl) (fe_op op_mod sim_mod (fe_ty call_int1 sim_int (by rfl) h.n_int PyProof.Rows.Boot.«int» (fa_cons (fe_op op_addA sim_add (fe_var (pv 1)) (fe_call rfl ((ok_l_draw h).mono (by decide)) hr (by rfl) h.g_l_draw h.F_l_draw.kp (b_l_draw h) .nil Dfl.nil tk (fa_cons (fe_var (pv 0)) (fa_cons fe_int fa_nil)))) fa_nil)) fe_int))
      (fs_cons (fs_set (i := 7) nd rfl (Or.inl rfl) (fe_op op_mod sim_mod (fe_ty call_int1 sim_int (by rfl) h.n_int PyProof.Rows.Boot.«int» (fa_cons (fe_op op_addA sim_add fe_int (fe_call rfl ((ok_l_draw h).mono (by decide)) hr (by rfl) h.g_l_draw h.F_l_draw.kp (b_l_draw h) .nil Dfl.nil tk (fa_cons (fe_var (pv 0)) (fa_cons fe_int fa_nil)))) fa_nil)) fe_int))
      (fs_cons (fs_set (i := 8) nd rfl (Or.inl rfl) (fe_loc rfl fa_nil))
      (fs_cons (fs_for own rfl (fi_range1 (by rfl) h.n_range (fa_cons (fe_var (pv 3)) fa_nil)) (fg_name (i := 9) nd rfl (Or.inl rfl)) (fs_one (fs_expr (fe_mut rfl mt_append sim_append PySem.F.slot_list_append PySem.F.type_list_append (fe_var (pv 8)) (fa_cons (fe_call rfl ((ok_l_cost h).mono (by decide)) hr (by rfl) h.g_l_cost h.F_l_cost.kp (b_l_cost h) .nil Dfl.nil tk (fa_cons (fe_var (pv 0)) (fa_cons (fe_var (pv 6)) (fa_cons (fe_op op_mulA sim_mulA (fe_var (pv 5)) (fe_ix (fe_var (pv 4)) (fe_var (pv 9)))) (fa_cons (fe_var (pv 7)) (fa_cons (fe_var (pv 9)) fa_nil)))))) fa_nil)))))
      (fs_one (fs_ret (fe_lst (fa_cons (fe_var (pv 4)) (fa_cons (fe_var (pv 5)) (fa_cons (fe_var (pv 8)) fa_nil)))))))))))))))
theorem ok_l_case (h : Hs P w K mg) : FnOk P w K mg base (L2.CX P w) 3 h.f_l_case h.fd_l_case ["_law_pool", "_law_plain"] (spF K 2 (m_l_case)) := (raw_l_case h).nice fun ds S _ => fz_nice _ ds S
theorem nd_l_bent : N_l_bent.Nodup := by decide +kernel
theorem sc_l_bent : FnScope N_l_bent ["_law_case_here", "_law_way", "_law_at", "_law_far"] (defScope s_l_bent) := ⟨rfl, rfl, rfl, by decide +kernel, rfl, by decide +kernel, by decide +kernel⟩
theorem b_l_bent (h : Hs P w K mg) : Binds K h.fd_l_bent ["_law_case_here", "_law_way", "_law_at", "_law_far"] [] := h.F_l_bent.bindsN fun _ _ _ _ _ _ us hl => match us, hl with | [_, _, _, _], _ => rfl
theorem raw_l_bent (h : Hs P w K mg) : FnOk P w K mg base (L2.CX P w) 1 h.f_l_bent h.fd_l_bent ["_law_case_here", "_law_way", "_law_at", "_law_far"] (spF K 4 (f_l_bent)) :=
  fn_okF h.F_l_bent sc_l_bent fun cdv A outer s H E hr => by
  have nd := nd_l_bent
  have hu := hr.units
  have tk := tk_cx (P := P) (w := w) (K := K) (mg := mg) (base := base) (N := N_l_bent) (qual := "_law_bent") (scope := defScope s_l_bent) (f := h.f_l_bent) (cd := cdv) (A := A) (outer := outer) (s := s) (H := H) (E := E)
  have own := own_cx (P := P) (w := w) (K := K) (mg := mg) (base := base) (N := N_l_bent) (qual := "_law_bent") (scope := defScope s_l_bent) (f := h.f_l_bent) (cd := cdv) (A := A) (outer := outer) (s := s) (H := H) (E := E)
  exact (fs_cons (fs_set (i := 4) nd rfl (Or.inl rfl) (fe_tyL rfl call_list_of sim_list (by rfl) h.n_list PyProof.Rows.Boot.«list» (fa_cons (fe_ix (fe_var (pv 0)) fe_int) fa_nil)))
      (fs_cons (fs_set (i := 5) nd rfl (Or.inl rfl) (fe_ix (fe_var (pv 0)) fe_int))
      (fs_cons (fs_set (i := 6) nd rfl (Or.inl rfl) (fe_tyL rfl call_list_of sim_list (by rfl) h.n_list PyProof.Rows.Boot.«list» (fa_cons (fe_ix (fe_var (pv 0)) fe_int) fa_nil)))
      (fs_cons (fs_if (ft_cmp (op_eqD hu) (nomark _) sim_eq (fe_var (pv 1)) fe_int) (fs_one (fs_set (i := 4) nd rfl (Or.inl rfl) (fe_loc rfl fa_nil))) fs_nil)
      (fs_cons (fs_if (ft_cmp (op_eqD hu) (nomark _) sim_eq (fe_var (pv 1)) fe_int) (fs_one (fs_set (i := 4) nd rfl (Or.inl rfl) (fe_opL rfl op_cat sim_cat (fe_var (pv 4)) (fe_lst (fa_cons (fe_var (pv 3)) (fa_cons fe_int (fa_cons fe_int (fa_cons fe_int (fa_cons fe_int (fa_cons fe_int (fa_cons fe_int fa_nil))))))))))) fs_nil)
      (fs_cons (fs_if (fw_t (fw_and (ft_cmp (op_eqD hu) (nomark _) sim_eq (fe_var (pv 1)) fe_int) (fw_and1 (ft_cmp (op_neD hu) (nomark _) sim_ne (fe_var (pv 4)) (fe_lst fa_nil))))) (fs_one (fs_seti rfl (fe_op op_sub sim_sub (fe_un un_neg sim_neg fe_int) (fe_var (pv 3))) (fe_var (pv 4)) (fe_op op_mod sim_mod (fe_ty call_int1 sim_int (by rfl) h.n_int PyProof.Rows.Boot.«int» (fa_cons (fe_var (pv 2)) fa_nil)) (fe_bu call_len sim_len (by rfl) h.n_len PyProof.Rows.Boot.«len» (fa_cons (fe_var (pv 4)) fa_nil))))) fs_nil)
      (fs_cons (fs_if (fw_t (fw_and (ft_cmp (op_eqD hu) (nomark _) sim_eq (fe_var (pv 1)) fe_int) (fw_and1 (ft_cmp (op_neD hu) (nomark _) sim_ne (fe_var (pv 4)) (fe_lst fa_nil))))) (fs_one (fs_seti rfl (fe_op op_addA sim_add fe_int (fe_var (pv 3))) (fe_var (pv 4)) (fe_op op_mod sim_mod (fe_ty call_int1 sim_int (by rfl) h.n_int PyProof.Rows.Boot.«int» (fa_cons (fe_var (pv 2)) fa_nil)) (fe_bu call_len sim_len (by rfl) h.n_len PyProof.Rows.Boot.«len» (fa_cons (fe_var (pv 4)) fa_nil))))) fs_nil)
      (fs_cons (fs_if (ft_cmp (op_eqD hu) (nomark _) sim_eq (fe_var (pv 1)) fe_int) (fs_one (fs_set (i := 5) nd rfl (Or.inl rfl) (fe_op op_sub sim_sub fe_int (fe_var (pv 3))))) fs_nil)
      (fs_cons (fs_if (ft_cmp (op_eqD hu) (nomark _) sim_eq (fe_var (pv 1)) fe_int) (fs_one (fs_set (i := 5) nd rfl (Or.inl rfl) (fe_op op_addA sim_add fe_int (fe_var (pv 3))))) fs_nil)
      (fs_cons (fs_if (ft_cmp (op_eqD hu) (nomark _) sim_eq (fe_var (pv 1)) fe_int) (fs_one (fs_set (i := 6) nd rfl (Or.inl rfl) (fe_sl (fe_var (pv 6)) (fo_some fe_int) fo_none))) fs_nil)
      (fs_cons (fs_if (ft_cmp (op_eqD hu) (nomark _) sim_eq (fe_var (pv 1)) fe_int) (fs_one (fs_set (i := 6) nd rfl (Or.inl rfl) (fe_opL rfl op_cat sim_cat (fe_var (pv 6)) (fe_lst (fa_cons (fe_var (pv 3)) fa_nil))))) fs_nil)
      (fs_cons (fs_if (fw_t (fw_and (ft_cmp (op_eqD hu) (nomark _) sim_eq (fe_var (pv 1)) fe_int) (fw_and1 (ft_cmp (op_neD hu) (nomark _) sim_ne (fe_var (pv 6)) (fe_lst fa_nil))))) (fs_one (fs_seti rfl (fe_op op_sub sim_sub (fe_un un_neg sim_neg fe_int) (fe_var (pv 3))) (fe_var (pv 6)) (fe_op op_mod sim_mod (fe_ty call_int1 sim_int (by rfl) h.n_int PyProof.Rows.Boot.«int» (fa_cons (fe_var (pv 2)) fa_nil)) (fe_bu call_len sim_len (by rfl) h.n_len PyProof.Rows.Boot.«len» (fa_cons (fe_var (pv 6)) fa_nil))))) fs_nil)
      (fs_cons (fs_if (fw_t (fw_and (ft_cmp (op_eqD hu) (nomark _) sim_eq (fe_var (pv 1)) fe_int) (fw_and1 (ft_cmp (op_neD hu) (nomark _) sim_ne (fe_var (pv 6)) (fe_lst fa_nil))))) (fs_one (fs_seti rfl (fe_op op_addA sim_add fe_int (fe_var (pv 3))) (fe_var (pv 6)) (fe_op op_mod sim_mod (fe_ty call_int1 sim_int (by rfl) h.n_int PyProof.Rows.Boot.«int» (fa_cons (fe_var (pv 2)) fa_nil)) (fe_bu call_len sim_len (by rfl) h.n_len PyProof.Rows.Boot.«len» (fa_cons (fe_var (pv 6)) fa_nil))))) fs_nil)
      (fs_one (fs_ret (fe_lst (fa_cons (fe_var (pv 4)) (fa_cons (fe_var (pv 5)) (fa_cons (fe_var (pv 6)) fa_nil)))))))))))))))))))
theorem ok_l_bent (h : Hs P w K mg) : FnOk P w K mg base (L2.CX P w) 1 h.f_l_bent h.fd_l_bent ["_law_case_here", "_law_way", "_law_at", "_law_far"] (spF K 4 (m_l_bent)) := (raw_l_bent h).nice fun ds S _ => fz_nice _ ds S
theorem nd_l_wrong : N_l_wrong.Nodup := by decide +kernel
theorem sc_l_wrong : FnScope N_l_wrong ["_law_row", "_law_scale", "_law_known"] (defScope s_l_wrong) := ⟨rfl, rfl, rfl, by decide +kernel, rfl, by decide +kernel, by decide +kernel⟩
theorem b_l_wrong (h : Hs P w K mg) : Binds K h.fd_l_wrong ["_law_row", "_law_scale", "_law_known"] [] := h.F_l_wrong.bindsN fun _ _ _ _ _ _ us hl => match us, hl with | [_, _, _], _ => rfl
theorem ok_l_wrong (h : Hs P w K mg) : FnOk P w K mg base (L2.CX P w) 1 h.f_l_wrong h.fd_l_wrong ["_law_row", "_law_scale", "_law_known"] (spF K 3 (f_l_wrong)) :=
  fn_okF h.F_l_wrong sc_l_wrong fun cdv A outer s H E hr => by
  have nd := nd_l_wrong
  have hu := hr.units
  have tk := tk_cx (P := P) (w := w) (K := K) (mg := mg) (base := base) (N := N_l_wrong) (qual := "_law_wrong") (scope := defScope s_l_wrong) (f := h.f_l_wrong) (cd := cdv) (A := A) (outer := outer) (s := s) (H := H) (E := E)
  have own := own_cx (P := P) (w := w) (K := K) (mg := mg) (base := base) (N := N_l_wrong) (qual := "_law_wrong") (scope := defScope s_l_wrong) (f := h.f_l_wrong) (cd := cdv) (A := A) (outer := outer) (s := s) (H := H) (E := E)
  exact (fs_cons (fs_if (fw_t (fw_or (ft_cmp op_lt (nomark _) sim_lt (fe_bu call_len sim_len (by rfl) h.n_len PyProof.Rows.Boot.«len» (fa_cons (fe_var (pv 0)) fa_nil)) fe_int) (fw_or1 (ft_cmp op_gt (nomark _) sim_gt (fe_bu call_len sim_len (by rfl) h.n_len PyProof.Rows.Boot.«len» (fa_cons (fe_var (pv 0)) fa_nil)) fe_int)))) (fs_one (fs_ret (fe_tup (fa_cons fe_str (fa_cons (fe_bu call_len sim_len (by rfl) h.n_len PyProof.Rows.Boot.«len» (fa_cons (fe_var (pv 0)) fa_nil)) fa_nil))))) fs_nil)
      (fs_cons (fs_for own rfl (fi_seq (fe_var (pv 0))) (fg_name (i := 3) nd rfl (Or.inl rfl)) (fs_one (fs_if (fw_t (fw_or (ft_cmp op_lt (nomark _) sim_lt (fe_var (pv 3)) fe_int) (fw_or1 (ft_cmp op_gt (nomark _) sim_gt (fe_var (pv 3)) fe_int)))) (fs_one (fs_ret (fe_tup (fa_cons fe_str (fa_cons (fe_var (pv 3)) fa_nil))))) fs_nil)))
      (fs_cons (fs_if (fw_t (fw_or (ft_cmp op_lt (nomark _) sim_lt (fe_var (pv 1)) fe_int) (fw_or1 (ft_cmp op_gt (nomark _) sim_gt (fe_var (pv 1)) fe_int)))) (fs_one (fs_ret (fe_tup (fa_cons fe_str (fa_cons (fe_var (pv 1)) fa_nil))))) fs_nil)
      (fs_cons (fs_if (ft_cmp (op_neD hu) (nomark _) sim_ne (fe_bu call_len sim_len (by rfl) h.n_len PyProof.Rows.Boot.«len» (fa_cons (fe_var (pv 2)) fa_nil)) (fe_bu call_len sim_len (by rfl) h.n_len PyProof.Rows.Boot.«len» (fa_cons (fe_var (pv 0)) fa_nil))) (fs_one (fs_ret (fe_tup (fa_cons fe_str (fa_cons (fe_bu call_len sim_len (by rfl) h.n_len PyProof.Rows.Boot.«len» (fa_cons (fe_var (pv 2)) fa_nil)) fa_nil))))) fs_nil)
      (fs_cons (fs_for own rfl (fi_seq (fe_var (pv 2))) (fg_name (i := 4) nd rfl (Or.inl rfl)) (fs_one (fs_if (fw_t (fw_or (ft_cmp op_lt (nomark _) sim_lt (fe_var (pv 4)) fe_int) (fw_or1 (ft_cmp op_gt (nomark _) sim_gt (fe_var (pv 4)) fe_int)))) (fs_one (fs_ret (fe_tup (fa_cons fe_str (fa_cons (fe_var (pv 4)) fa_nil))))) fs_nil)))
      (fs_one (fs_ret fe_non)))))))
theorem nd_l_best : N_l_best.Nodup := by decide +kernel
theorem sc_l_best : FnScope N_l_best ["_law_left_here", "_law_known"] (defScope s_l_best) := ⟨rfl, rfl, rfl, by decide +kernel, rfl, by decide +kernel, by decide +kernel⟩
theorem b_l_best (h : Hs P w K mg) : Binds K h.fd_l_best ["_law_left_here", "_law_known"] [] := h.F_l_best.bindsN fun _ _ _ _ _ _ us hl => match us, hl with | [_, _], _ => rfl
theorem ok_l_best (h : Hs P w K mg) : FnOk P w K mg base (L2.CX P w) 1 h.f_l_best h.fd_l_best ["_law_left_here", "_law_known"] (spF K 2 (f_l_best)) :=
  fn_okF h.F_l_best sc_l_best fun cdv A outer s H E hr => by
  have nd := nd_l_best
  have hu := hr.units
  have tk := tk_cx (P := P) (w := w) (K := K) (mg := mg) (base := base) (N := N_l_best) (qual := "_law_best") (scope := defScope s_l_best) (f := h.f_l_best) (cd := cdv) (A := A) (outer := outer) (s := s) (H := H) (E := E)
  have own := own_cx (P := P) (w := w) (K := K) (mg := mg) (base := base) (N := N_l_best) (qual := "_law_best") (scope := defScope s_l_best) (f := h.f_l_best) (cd := cdv) (A := A) (outer := outer) (s := s) (H := H) (E := E)
  exact (fs_cons (fs_set (i := 2) nd rfl (Or.inl rfl) fe_int)
      (fs_cons (fs_set (i := 3) nd rfl (Or.inl rfl) fe_non)
      (fs_cons (fs_for own rfl (fi_revR (by rfl) h.n_reversed (by rfl) h.n_range (fe_bu call_len sim_len (by rfl) h.n_len PyProof.Rows.Boot.«len» (fa_cons (fe_var (pv 0)) fa_nil))) (fg_name (i := 4) nd rfl (Or.inl rfl)) (fs_one (fs_if (ft_cmp op_ge (nomark _) sim_ge (fe_ix (fe_var (pv 0)) (fe_var (pv 4))) (fe_var (pv 2))) (fs_cons (fs_set (i := 2) nd rfl (Or.inl rfl) (fe_ix (fe_var (pv 0)) (fe_var (pv 4))))
      (fs_one (fs_set (i := 3) nd rfl (Or.inl rfl) (fe_tup (fa_cons (fe_var (pv 4)) (fa_cons (fe_op op_addA sim_add (fe_ix (fe_var (pv 1)) (fe_var (pv 4))) fe_int) fa_nil)))))) fs_nil)))
      (fs_one (fs_ret (fe_var (pv 3)))))))
theorem nd_l_same : N_l_same.Nodup := by decide +kernel
theorem sc_l_same : FnScope N_l_same ["_law_actual", "_law_due"] (defScope s_l_same) := ⟨rfl, rfl, rfl, by decide +kernel, rfl, by decide +kernel, by decide +kernel⟩
theorem b_l_same (h : Hs P w K mg) : Binds K h.fd_l_same ["_law_actual", "_law_due"] [] := h.F_l_same.bindsN fun _ _ _ _ _ _ us hl => match us, hl with | [_, _], _ => rfl
theorem okr_l_same (h : Hs P w K mg) : ∀ k : Nat, FnOk P w K mg base (L2.CX P w) (1 + k) h.f_l_same h.fd_l_same ["_law_actual", "_law_due"] (spF K 2 (f_l_same k))
  | 0 => fn_bad
  | k + 1 => fn_okF h.F_l_same sc_l_same fun cdv A outer s H E hr => by
    have hrec := okr_l_same h k
    have nd := nd_l_same
    have hu := hr.units
    have tk := tk_cx (P := P) (w := w) (K := K) (mg := mg) (base := base) (N := N_l_same) (qual := "_law_same") (scope := defScope s_l_same) (f := h.f_l_same) (cd := cdv) (A := A) (outer := outer) (s := s) (H := H) (E := E)
    have own := own_cx (P := P) (w := w) (K := K) (mg := mg) (base := base) (N := N_l_same) (qual := "_law_same") (scope := defScope s_l_same) (f := h.f_l_same) (cd := cdv) (A := A) (outer := outer) (s := s) (H := H) (E := E)
    exact (fs_cons (fs_if (ft_val (fe_bu call_isA (sim_isi (tab := []) (fun q hq => by first | exact hq | (rw [List.mem_singleton.mp hq]; exact List.mem_cons_self) | cases hq) (fun q hq => by cases hq)) (by rfl) h.n_isinstance PyProof.Rows.Boot.«isinstance» (fa_cons (fe_var (pv 1)) (fa_cons (fe_c (v := .ty "tuple") (pe_bltn (by rfl) h.n_tuple PyProof.Rows.Boot.«tuple» rfl) fun _ => .ty _) fa_nil)))) (fs_cons (fs_if (fw_t (fw_or (ft_not (ft_val (fe_bu call_isA (sim_isi (tab := []) (fun q hq => by first | exact hq | (rw [List.mem_singleton.mp hq]; exact List.mem_cons_self) | cases hq) (fun q hq => by cases hq)) (by rfl) h.n_isinstance PyProof.Rows.Boot.«isinstance» (fa_cons (fe_var (pv 0)) (fa_cons (fe_c (v := .ty "tuple") (pe_bltn (by rfl) h.n_tuple PyProof.Rows.Boot.«tuple» rfl) fun _ => .ty _) fa_nil))))) (fw_or1 (ft_cmp (op_neD hu) (nomark _) sim_ne (fe_bu call_len sim_len (by rfl) h.n_len PyProof.Rows.Boot.«len» (fa_cons (fe_var (pv 0)) fa_nil)) (fe_bu call_len sim_len (by rfl) h.n_len PyProof.Rows.Boot.«len» (fa_cons (fe_var (pv 1)) fa_nil)))))) (fs_one (fs_ret fe_bl)) fs_nil)
      (fs_cons (fs_for own rfl (fi_range1 (by rfl) h.n_range (fa_cons (fe_bu call_len sim_len (by rfl) h.n_len PyProof.Rows.Boot.«len» (fa_cons (fe_var (pv 1)) fa_nil)) fa_nil)) (fg_name (i := 2) nd rfl (Or.inl rfl)) (fs_one (fs_if (ft_not (ft_val (fe_call rfl hrec hr (by rfl) h.g_l_same h.F_l_same.kp (b_l_same h) .nil Dfl.nil tk (fa_cons (fe_ix (fe_var (pv 0)) (fe_var (pv 2))) (fa_cons (fe_ix (fe_var (pv 1)) (fe_var (pv 2))) fa_nil))))) (fs_one (fs_ret fe_bl)) fs_nil)))
      (fs_one (fs_ret fe_bl)))) fs_nil)
      (fs_cons (fs_if (ft_cmp op_isN (nomark _) sim_isN (fe_var (pv 1)) fe_non) (fs_one (fs_ret (fe_cmp op_isN (nomark _) sim_isN (fe_var (pv 0)) fe_non))) fs_nil)
      (fs_cons (fs_if (ft_val (fe_bu call_isA (sim_isi (tab := []) (fun q hq => by first | exact hq | (rw [List.mem_singleton.mp hq]; exact List.mem_cons_self) | cases hq) (fun q hq => by cases hq)) (by rfl) h.n_isinstance PyProof.Rows.Boot.«isinstance» (fa_cons (fe_var (pv 1)) (fa_cons (fe_c (v := .ty "str") (pe_bltn (by rfl) h.n_str PyProof.Rows.Boot.«str» rfl) fun _ => .ty _) fa_nil)))) (fs_one (fs_ret (fe_and (fe_bu call_isA (sim_isi (tab := []) (fun q hq => by first | exact hq | (rw [List.mem_singleton.mp hq]; exact List.mem_cons_self) | cases hq) (fun q hq => by cases hq)) (by rfl) h.n_isinstance PyProof.Rows.Boot.«isinstance» (fa_cons (fe_var (pv 0)) (fa_cons (fe_c (v := .ty "str") (pe_bltn (by rfl) h.n_str PyProof.Rows.Boot.«str» rfl) fun _ => .ty _) fa_nil))) (fe_one (fe_cmp (op_eqD hu) (nomark _) sim_eq (fe_var (pv 0)) (fe_var (pv 1))))))) fs_nil)
      (fs_one (fs_ret (fe_and (fe_bu call_isA (sim_isi (tab := []) (fun q hq => by first | exact hq | (rw [List.mem_singleton.mp hq]; exact List.mem_cons_self) | cases hq) (fun q hq => by cases hq)) (by rfl) h.n_isinstance PyProof.Rows.Boot.«isinstance» (fa_cons (fe_var (pv 0)) (fa_cons (fe_c (v := .ty "int") (pe_bltn (by rfl) h.n_int PyProof.Rows.Boot.«int» rfl) fun _ => .ty _) fa_nil))) (fe_and (fe_not (fe_bu call_isA (sim_isi (tab := []) (fun q hq => by first | exact hq | (rw [List.mem_singleton.mp hq]; exact List.mem_cons_self) | cases hq) (fun q hq => by cases hq)) (by rfl) h.n_isinstance PyProof.Rows.Boot.«isinstance» (fa_cons (fe_var (pv 0)) (fa_cons (fe_c (v := .ty "bool") (pe_bltn (by rfl) h.n_bool PyProof.Rows.Boot.«bool» rfl) fun _ => .ty _) fa_nil)))) (fe_one (fe_cmp (op_eqD hu) (nomark _) sim_eq (fe_var (pv 0)) (fe_var (pv 1)))))))))))
theorem ok_l_same (h : Hs P w K mg) : FnOk P w K mg base (L2.CX P w) 7 h.f_l_same h.fd_l_same ["_law_actual", "_law_due"] (spF K 2 (f_l_same 6)) := okr_l_same h 6
theorem nd_within : N_within.Nodup := by decide +kernel
theorem sc_within : FnScope N_within ["what", "value", "least", "most"] (defScope s_within) := ⟨rfl, rfl, rfl, by decide +kernel, rfl, by decide +kernel, by decide +kernel⟩
theorem b_within (h : Hs P w K mg) : Binds K h.fd_within ["what", "value", "least", "most"] [] := h.F_within.bindsN fun _ _ _ _ _ _ us hl => match us, hl with | [_, _, _, _], _ => rfl
theorem ok_within (h : Hs P w K mg) : FnOk P w K mg base (L2.CX P w) 3 h.f_within h.fd_within ["what", "value", "least", "most"] (spF K 4 (f_within h.c)) :=
  fn_okF h.F_within sc_within fun cdv A outer s H E hr => by
  have nd := nd_within
  have hu := hr.units
  have tk := tk_cx (P := P) (w := w) (K := K) (mg := mg) (base := base) (N := N_within) (qual := "within") (scope := defScope s_within) (f := h.f_within) (cd := cdv) (A := A) (outer := outer) (s := s) (H := H) (E := E)
  have own := own_cx (P := P) (w := w) (K := K) (mg := mg) (base := base) (N := N_within) (qual := "within") (scope := defScope s_within) (f := h.f_within) (cd := cdv) (A := A) (outer := outer) (s := s) (H := H) (E := E)
  exact (fs_one (fs_if (fw_t (fw_or (ft_cmp op_lt (nomark _) sim_lt (fe_var (pv 1)) (fe_var (pv 2))) (fw_or1 (ft_cmp op_gt (nomark _) sim_gt (fe_var (pv 1)) (fe_var (pv 3)))))) (fs_one (fs_raise2 rfl rfl h.e_OutOfRange (ini_OutOfRange h) (hr.mono (by decide)) (bi_OutOfRange h) tk (by rfl) (fa_cons (fe_var (pv 0)) (fa_cons (fe_var (pv 1)) fa_nil)))) fs_nil))
theorem nd_row_scale_look : N_row_scale_look.Nodup := by decide +kernel
theorem sc_row_scale_look : FnScope N_row_scale_look ["row", "scale"] (defScope s_row_scale_look) := ⟨rfl, rfl, rfl, by decide +kernel, rfl, by decide +kernel, by decide +kernel⟩
theorem b_row_scale_look (h : Hs P w K mg) : Binds K h.fd_row_scale_look ["row", "scale"] [] := h.F_row_scale_look.bindsN fun _ _ _ _ _ _ us hl => match us, hl with | [_, _], _ => rfl
theorem ok_row_scale_look (h : Hs P w K mg) : FnOk P w K mg base (L2.CX P w) 4 h.f_row_scale_look h.fd_row_scale_look ["row", "scale"] (spF K 2 (f_row_scale_look h.c)) :=
  fn_okF h.F_row_scale_look sc_row_scale_look fun cdv A outer s H E hr => by
  have nd := nd_row_scale_look
  have hu := hr.units
  have tk := tk_cx (P := P) (w := w) (K := K) (mg := mg) (base := base) (N := N_row_scale_look) (qual := "row_scale_look") (scope := defScope s_row_scale_look) (f := h.f_row_scale_look) (cd := cdv) (A := A) (outer := outer) (s := s) (H := H) (E := E)
  have own := own_cx (P := P) (w := w) (K := K) (mg := mg) (base := base) (N := N_row_scale_look) (qual := "row_scale_look") (scope := defScope s_row_scale_look) (f := h.f_row_scale_look) (cd := cdv) (A := A) (outer := outer) (s := s) (H := H) (E := E)
  exact (fs_cons (fs_expr (fe_call rfl ((ok_within h).mono (by decide)) hr (by rfl) h.g_within h.F_within.kp (b_within h) .nil Dfl.nil tk (fa_cons fe_str (fa_cons (fe_bu call_len sim_len (by rfl) h.n_len PyProof.Rows.Boot.«len» (fa_cons (fe_var (pv 0)) fa_nil)) (fa_cons fe_int (fa_cons (fe_c (v := .int 6) (pe_glob (by rfl) h.i_MOST_DESKS.choose_spec ⟨_, rfl⟩) fun _ => .int _) fa_nil))))))
      (fs_cons (fs_for own rfl (fi_seq (fe_var (pv 0))) (fg_name (i := 2) nd rfl (Or.inl rfl)) (fs_one (fs_expr (fe_call rfl ((ok_within h).mono (by decide)) hr (by rfl) h.g_within h.F_within.kp (b_within h) .nil Dfl.nil tk (fa_cons fe_str (fa_cons (fe_var (pv 2)) (fa_cons fe_int (fa_cons (fe_c (v := .int 99) (pe_glob (by rfl) h.i_MOST_WORTH.choose_spec ⟨_, rfl⟩) fun _ => .int _) fa_nil))))))))
      (fs_cons (fs_expr (fe_call rfl ((ok_within h).mono (by decide)) hr (by rfl) h.g_within h.F_within.kp (b_within h) .nil Dfl.nil tk (fa_cons fe_str (fa_cons (fe_var (pv 1)) (fa_cons fe_int (fa_cons (fe_c (v := .int 100) (pe_glob (by rfl) h.i_MOST_SCALE.choose_spec ⟨_, rfl⟩) fun _ => .int _) fa_nil))))))
      (fs_one (fs_ret (fe_ty call_tupleZ sim_tuple (by rfl) h.n_tuple PyProof.Rows.Boot.«tuple» (fa_cons (fe_var (pv 0)) fa_nil)))))))
theorem nd_left_at : N_left_at.Nodup := by decide +kernel
theorem sc_left_at : FnScope N_left_at ["row", "scale", "known"] (defScope s_left_at) := ⟨rfl, rfl, rfl, by decide +kernel, rfl, by decide +kernel, by decide +kernel⟩
theorem b_left_at (h : Hs P w K mg) : Binds K h.fd_left_at ["row", "scale", "known"] [] := h.F_left_at.bindsN fun _ _ _ _ _ _ us hl => match us, hl with | [_, _, _], _ => rfl
theorem ok_left_at (h : Hs P w K mg) : FnOk P w K mg base (L2.CX P w) 5 h.f_left_at h.fd_left_at ["row", "scale", "known"] (spF K 3 (f_left_at h.c)) :=
  fn_okF h.F_left_at sc_left_at fun cdv A outer s H E hr => by
  have nd := nd_left_at
  have hu := hr.units
  have tk := tk_cx (P := P) (w := w) (K := K) (mg := mg) (base := base) (N := N_left_at) (qual := "left_at") (scope := defScope s_left_at) (f := h.f_left_at) (cd := cdv) (A := A) (outer := outer) (s := s) (H := H) (E := E)
  have own := own_cx (P := P) (w := w) (K := K) (mg := mg) (base := base) (N := N_left_at) (qual := "left_at") (scope := defScope s_left_at) (f := h.f_left_at) (cd := cdv) (A := A) (outer := outer) (s := s) (H := H) (E := E)
  exact (fs_cons (fs_set (i := 3) nd rfl (Or.inl rfl) (fe_call rfl ((ok_row_scale_look h).mono (by decide)) hr (by rfl) h.g_row_scale_look h.F_row_scale_look.kp (b_row_scale_look h) .nil Dfl.nil tk (fa_cons (fe_var (pv 0)) (fa_cons (fe_var (pv 1)) fa_nil))))
      (fs_cons (fs_expr (fe_call rfl ((ok_within h).mono (by decide)) hr (by rfl) h.g_within h.F_within.kp (b_within h) .nil Dfl.nil tk (fa_cons fe_str (fa_cons (fe_bu call_len sim_len (by rfl) h.n_len PyProof.Rows.Boot.«len» (fa_cons (fe_var (pv 2)) fa_nil)) (fa_cons (fe_bu call_len sim_len (by rfl) h.n_len PyProof.Rows.Boot.«len» (fa_cons (fe_var (pv 3)) fa_nil)) (fa_cons (fe_bu call_len sim_len (by rfl) h.n_len PyProof.Rows.Boot.«len» (fa_cons (fe_var (pv 3)) fa_nil)) fa_nil))))))
      (fs_cons (fs_for own rfl (fi_seq (fe_var (pv 2))) (fg_name (i := 4) nd rfl (Or.inl rfl)) (fs_one (fs_expr (fe_call rfl ((ok_within h).mono (by decide)) hr (by rfl) h.g_within h.F_within.kp (b_within h) .nil Dfl.nil tk (fa_cons fe_str (fa_cons (fe_var (pv 4)) (fa_cons fe_int (fa_cons (fe_c (v := .int 9999) (pe_glob (by rfl) h.i_MOST_PRICE.choose_spec ⟨_, rfl⟩) fun _ => .int _) fa_nil))))))))
      (fs_one (fs_ret (fe_ty call_tupleZ sim_tuple (by rfl) h.n_tuple PyProof.Rows.Boot.«tuple» (fa_cons (fe_lc (own := [("worth", 5), ("price", 4)]) rfl nd (fi_zip (by rfl) h.n_zip (fa_cons (fe_var (pv 3)) (fa_cons (fe_var (pv 2)) fa_nil))) (blkOk_by (N := N_left_at) (sc := defScope s_left_at) (by decide +kernel)) (fun _ _ _ _ _ => (fgv_tup rfl (fgsv_cons (fgv_name (i := 5) (by decide) nd rfl (Or.inl rfl)) (fgsv_cons (fgv_name (i := 4) (by decide) nd rfl (Or.inl rfl)) fgsv_nil)))) (fun _ _ _ _ _ => fts_nil) (fun _ _ _ _ _ => (fe_op op_sub sim_sub (fe_op op_mulA sim_mulA (fe_var (pv 1)) (fe_var (pv 5))) (fe_var (pv 4))))) fa_nil)))))))
theorem nd_choose : N_choose.Nodup := by decide +kernel
theorem sc_choose : FnScope N_choose ["row", "scale", "known"] (defScope s_choose) := ⟨rfl, rfl, rfl, by decide +kernel, rfl, by decide +kernel, by decide +kernel⟩
theorem b_choose (h : Hs P w K mg) : Binds K h.fd_choose ["row", "scale", "known"] [] := h.F_choose.bindsN fun _ _ _ _ _ _ us hl => match us, hl with | [_, _, _], _ => rfl
theorem ok_choose (h : Hs P w K mg) : FnOk P w K mg base (L2.CX P w) 6 h.f_choose h.fd_choose ["row", "scale", "known"] (spF K 3 (f_choose h.c)) :=
  fn_okF h.F_choose sc_choose fun cdv A outer s H E hr => by
  have nd := nd_choose
  have hu := hr.units
  have tk := tk_cx (P := P) (w := w) (K := K) (mg := mg) (base := base) (N := N_choose) (qual := "choose") (scope := defScope s_choose) (f := h.f_choose) (cd := cdv) (A := A) (outer := outer) (s := s) (H := H) (E := E)
  have own := own_cx (P := P) (w := w) (K := K) (mg := mg) (base := base) (N := N_choose) (qual := "choose") (scope := defScope s_choose) (f := h.f_choose) (cd := cdv) (A := A) (outer := outer) (s := s) (H := H) (E := E)
  exact (fs_cons (fs_set (i := 3) nd rfl (Or.inl rfl) (fe_call rfl ((ok_left_at h).mono (by decide)) hr (by rfl) h.g_left_at h.F_left_at.kp (b_left_at h) .nil Dfl.nil tk (fa_cons (fe_var (pv 0)) (fa_cons (fe_var (pv 1)) (fa_cons (fe_var (pv 2)) fa_nil)))))
      (fs_cons (fs_set (i := 4) nd rfl (Or.inl rfl) (fe_bu (cr_maxT rfl hu) sim_maxT (by rfl) h.n_max PyProof.Rows.Boot.«max» (fa_cons (fe_var (pv 3)) fa_nil)))
      (fs_cons (fs_if (ft_cmp op_lt (nomark _) sim_lt (fe_var (pv 4)) fe_int) (fs_one (fs_ret fe_non)) fs_nil)
      (fs_cons (fs_set (i := 5) nd rfl (Or.inl rfl) (fe_methS mt_idxL mt_idxT sq_idx sq_idx PySem.F.slot_list_index PySem.F.type_list_index PySem.F.slot_tuple_index PySem.F.type_tuple_index (fe_var (pv 3)) (fa_cons (fe_var (pv 4)) fa_nil)))
      (fs_one (fs_ret (fe_tup (fa_cons (fe_var (pv 5)) (fa_cons (fe_op op_addA sim_add (fe_ix (fe_var (pv 2)) (fe_var (pv 5))) fe_int) fa_nil)))))))))
theorem nd_l_chosen : N_l_chosen.Nodup := by decide +kernel
theorem sc_l_chosen : FnScope N_l_chosen ["_law_row", "_law_scale", "_law_known"] (defScope s_l_chosen) := ⟨rfl, rfl, rfl, by decide +kernel, rfl, by decide +kernel, by decide +kernel⟩
theorem b_l_chosen (h : Hs P w K mg) : Binds K h.fd_l_chosen ["_law_row", "_law_scale", "_law_known"] [] := h.F_l_chosen.bindsN fun _ _ _ _ _ _ us hl => match us, hl with | [_, _, _], _ => rfl
theorem ok_l_chosen (h : Hs P w K mg) : FnOk P w K mg base (L2.CX P w) 7 h.f_l_chosen h.fd_l_chosen ["_law_row", "_law_scale", "_law_known"] (spF K 3 (f_l_chosen h.c)) :=
  fn_okF h.F_l_chosen sc_l_chosen fun cdv A outer s H E hr => by
  have nd := nd_l_chosen
  have hu := hr.units
  have tk := tk_cx (P := P) (w := w) (K := K) (mg := mg) (base := base) (N := N_l_chosen) (qual := "_law_chosen") (scope := defScope s_l_chosen) (f := h.f_l_chosen) (cd := cdv) (A := A) (outer := outer) (s := s) (H := H) (E := E)
  have own := own_cx (P := P) (w := w) (K := K) (mg := mg) (base := base) (N := N_l_chosen) (qual := "_law_chosen") (scope := defScope s_l_chosen) (f := h.f_l_chosen) (cd := cdv) (A := A) (outer := outer) (s := s) (H := H) (E := E)
  exact (fs_one (fs_try (i := 3) (ex := [(h.c "OutOfRange", true)]) rfl rfl rfl nd rfl rfl ⟨rfl, by decide, .inl h.gc_OutOfRange⟩ tk (fun q hq => by rw [List.mem_singleton.mp hq]; exact h.x_OutOfRange_OutOfRange) (fun W1 pn1 xe1 tk1 own1 => (fs_one (fs_ret (fe_call rfl ((ok_choose h).mono (by decide)) hr (by rfl) h.g_choose h.F_choose.kp (b_choose h) .nil Dfl.nil tk1 (fa_cons (fe_var (pv 0)) (fa_cons (fe_var (pv 1)) (fa_cons (fe_var (pv 2)) fa_nil))))))) (fun a1 oe1 pn1 hf1 => (fs_cons (fs_set (i := 4) nd rfl (Or.inl rfl) (fe_and (fe_bu call_isA (sim_isi (tab := [(h.c "OutOfRange", .inr (h.c "HeldError"), true)]) (fun q hq => by first | exact hq | (rw [List.mem_singleton.mp hq]; exact List.mem_cons_self) | cases hq) (fun q hq => by rw [List.mem_singleton.mp hq]; exact ⟨h.ex_OutOfRange, h.cl_OutOfRange, h.k_OutOfRange_HeldError⟩)) (by rfl) h.n_isinstance PyProof.Rows.Boot.«isinstance» (fa_cons (fe_var (pv 3)) (fa_cons (fe_c (v := .ref (h.c "HeldError")) (pe_glob (by rfl) h.gc_HeldError rfl) fun _ => .ref _) fa_nil))) (fe_one (fe_bu call_isA (sim_isi (tab := [(h.c "OutOfRange", .inl "ValueError", true)]) (fun q hq => by first | exact hq | (rw [List.mem_singleton.mp hq]; exact List.mem_cons_self) | cases hq) (fun q hq => by rw [List.mem_singleton.mp hq]; exact ⟨h.ex_OutOfRange, h.cl_OutOfRange, h.k_OutOfRange_ValueError⟩)) (by rfl) h.n_isinstance PyProof.Rows.Boot.«isinstance» (fa_cons (fe_var (pv 3)) (fa_cons (fe_c (v := .ty "ValueError") (pe_bltn (by rfl) h.n_ValueError PyProof.Rows.Boot.«ValueError» rfl) fun _ => .ty _) fa_nil))))))
      (fs_one (fs_ret (fe_lst (fa_cons (fe_exf (cls := [h.c "OutOfRange"]) (fun q hq => by first | exact hq | (rw [List.mem_singleton.mp hq]; exact List.mem_cons_self)) (fun C hC => by rw [List.mem_singleton.mp hC]; exact ⟨h.xf_OutOfRange, h.no_OutOfRange_what⟩) (fe_var (pv 3))) (fa_cons (fe_exf (cls := [h.c "OutOfRange"]) (fun q hq => by first | exact hq | (rw [List.mem_singleton.mp hq]; exact List.mem_cons_self)) (fun C hC => by rw [List.mem_singleton.mp hC]; exact ⟨h.xf_OutOfRange, h.no_OutOfRange_value⟩) (fe_var (pv 3))) (fa_cons (fe_and (fe_var (pv 4)) (fe_one (fe_not (fe_bu call_isXT (sim_isT (tab := [(h.c "OutOfRange", .inr (h.c "Unread"), false), (h.c "OutOfRange", .inr (h.c "BadWord"), false), (h.c "OutOfRange", .inr (h.c "NoLetter"), false)]) (fun q hq => by first | exact hq | (rw [List.mem_singleton.mp hq]; exact List.mem_cons_self)) (fun q hq => by simp only [List.mem_cons, List.not_mem_nil, or_false] at hq; rcases hq with rfl | rfl | rfl <;> first | exact ⟨h.ex_OutOfRange, h.cl_OutOfRange, h.k_OutOfRange_Unread⟩ | exact ⟨h.ex_OutOfRange, h.cl_OutOfRange, h.k_OutOfRange_BadWord⟩ | exact ⟨h.ex_OutOfRange, h.cl_OutOfRange, h.k_OutOfRange_NoLetter⟩)) (by rfl) h.n_isinstance PyProof.Rows.Boot.«isinstance» (fa_cons (fe_var (pv 3)) (fa_cons (fe_tup (fa_cons (fe_c (v := .ref (h.c "Unread")) (pe_glob (by rfl) h.gc_Unread rfl) fun _ => .ref _) (fa_cons (fe_c (v := .ref (h.c "BadWord")) (pe_glob (by rfl) h.gc_BadWord rfl) fun _ => .ref _) (fa_cons (fe_c (v := .ref (h.c "NoLetter")) (pe_glob (by rfl) h.gc_NoLetter rfl) fun _ => .ref _) fa_nil)))) fa_nil)))))) fa_nil))))))))))
theorem nd_l_left : N_l_left.Nodup := by decide +kernel
theorem sc_l_left : FnScope N_l_left ["_law_row", "_law_scale", "_law_known"] (defScope s_l_left) := ⟨rfl, rfl, rfl, by decide +kernel, rfl, by decide +kernel, by decide +kernel⟩
theorem b_l_left (h : Hs P w K mg) : Binds K h.fd_l_left ["_law_row", "_law_scale", "_law_known"] [] := h.F_l_left.bindsN fun _ _ _ _ _ _ us hl => match us, hl with | [_, _, _], _ => rfl
theorem ok_l_left (h : Hs P w K mg) : FnOk P w K mg base (L2.CX P w) 6 h.f_l_left h.fd_l_left ["_law_row", "_law_scale", "_law_known"] (spF K 3 (f_l_left h.c)) :=
  fn_okF h.F_l_left sc_l_left fun cdv A outer s H E hr => by
  have nd := nd_l_left
  have hu := hr.units
  have tk := tk_cx (P := P) (w := w) (K := K) (mg := mg) (base := base) (N := N_l_left) (qual := "_law_left") (scope := defScope s_l_left) (f := h.f_l_left) (cd := cdv) (A := A) (outer := outer) (s := s) (H := H) (E := E)
  have own := own_cx (P := P) (w := w) (K := K) (mg := mg) (base := base) (N := N_l_left) (qual := "_law_left") (scope := defScope s_l_left) (f := h.f_l_left) (cd := cdv) (A := A) (outer := outer) (s := s) (H := H) (E := E)
  exact (fs_one (fs_try (i := 3) (ex := [(h.c "OutOfRange", true)]) rfl rfl rfl nd rfl rfl ⟨rfl, by decide, .inl h.gc_OutOfRange⟩ tk (fun q hq => by rw [List.mem_singleton.mp hq]; exact h.x_OutOfRange_OutOfRange) (fun W1 pn1 xe1 tk1 own1 => (fs_one (fs_ret (fe_call rfl ((ok_left_at h).mono (by decide)) hr (by rfl) h.g_left_at h.F_left_at.kp (b_left_at h) .nil Dfl.nil tk1 (fa_cons (fe_var (pv 0)) (fa_cons (fe_var (pv 1)) (fa_cons (fe_var (pv 2)) fa_nil))))))) (fun a1 oe1 pn1 hf1 => (fs_cons (fs_set (i := 4) nd rfl (Or.inl rfl) (fe_and (fe_bu call_isA (sim_isi (tab := [(h.c "OutOfRange", .inr (h.c "HeldError"), true)]) (fun q hq => by first | exact hq | (rw [List.mem_singleton.mp hq]; exact List.mem_cons_self) | cases hq) (fun q hq => by rw [List.mem_singleton.mp hq]; exact ⟨h.ex_OutOfRange, h.cl_OutOfRange, h.k_OutOfRange_HeldError⟩)) (by rfl) h.n_isinstance PyProof.Rows.Boot.«isinstance» (fa_cons (fe_var (pv 3)) (fa_cons (fe_c (v := .ref (h.c "HeldError")) (pe_glob (by rfl) h.gc_HeldError rfl) fun _ => .ref _) fa_nil))) (fe_one (fe_bu call_isA (sim_isi (tab := [(h.c "OutOfRange", .inl "ValueError", true)]) (fun q hq => by first | exact hq | (rw [List.mem_singleton.mp hq]; exact List.mem_cons_self) | cases hq) (fun q hq => by rw [List.mem_singleton.mp hq]; exact ⟨h.ex_OutOfRange, h.cl_OutOfRange, h.k_OutOfRange_ValueError⟩)) (by rfl) h.n_isinstance PyProof.Rows.Boot.«isinstance» (fa_cons (fe_var (pv 3)) (fa_cons (fe_c (v := .ty "ValueError") (pe_bltn (by rfl) h.n_ValueError PyProof.Rows.Boot.«ValueError» rfl) fun _ => .ty _) fa_nil))))))
      (fs_one (fs_ret (fe_lst (fa_cons (fe_exf (cls := [h.c "OutOfRange"]) (fun q hq => by first | exact hq | (rw [List.mem_singleton.mp hq]; exact List.mem_cons_self)) (fun C hC => by rw [List.mem_singleton.mp hC]; exact ⟨h.xf_OutOfRange, h.no_OutOfRange_what⟩) (fe_var (pv 3))) (fa_cons (fe_exf (cls := [h.c "OutOfRange"]) (fun q hq => by first | exact hq | (rw [List.mem_singleton.mp hq]; exact List.mem_cons_self)) (fun C hC => by rw [List.mem_singleton.mp hC]; exact ⟨h.xf_OutOfRange, h.no_OutOfRange_value⟩) (fe_var (pv 3))) (fa_cons (fe_and (fe_var (pv 4)) (fe_one (fe_not (fe_bu call_isXT (sim_isT (tab := [(h.c "OutOfRange", .inr (h.c "Unread"), false), (h.c "OutOfRange", .inr (h.c "BadWord"), false), (h.c "OutOfRange", .inr (h.c "NoLetter"), false)]) (fun q hq => by first | exact hq | (rw [List.mem_singleton.mp hq]; exact List.mem_cons_self)) (fun q hq => by simp only [List.mem_cons, List.not_mem_nil, or_false] at hq; rcases hq with rfl | rfl | rfl <;> first | exact ⟨h.ex_OutOfRange, h.cl_OutOfRange, h.k_OutOfRange_Unread⟩ | exact ⟨h.ex_OutOfRange, h.cl_OutOfRange, h.k_OutOfRange_BadWord⟩ | exact ⟨h.ex_OutOfRange, h.cl_OutOfRange, h.k_OutOfRange_NoLetter⟩)) (by rfl) h.n_isinstance PyProof.Rows.Boot.«isinstance» (fa_cons (fe_var (pv 3)) (fa_cons (fe_tup (fa_cons (fe_c (v := .ref (h.c "Unread")) (pe_glob (by rfl) h.gc_Unread rfl) fun _ => .ref _) (fa_cons (fe_c (v := .ref (h.c "BadWord")) (pe_glob (by rfl) h.gc_BadWord rfl) fun _ => .ref _) (fa_cons (fe_c (v := .ref (h.c "NoLetter")) (pe_glob (by rfl) h.gc_NoLetter rfl) fun _ => .ref _) fa_nil)))) fa_nil)))))) fa_nil))))))))))
theorem nd_l_answers_hold : N_l_answers_hold.Nodup := by decide +kernel
theorem sc_l_answers_hold : FnScope N_l_answers_hold ["_law_row", "_law_scale", "_law_known"] (defScope s_l_answers_hold) := ⟨rfl, rfl, rfl, by decide +kernel, rfl, by decide +kernel, by decide +kernel⟩
theorem b_l_answers_hold (h : Hs P w K mg) : Binds K h.fd_l_answers_hold ["_law_row", "_law_scale", "_law_known"] [] := h.F_l_answers_hold.bindsN fun _ _ _ _ _ _ us hl => match us, hl with | [_, _, _], _ => rfl
theorem raw_l_answers_hold (h : Hs P w K mg) : FnOk P w K mg base (L2.CX P w) 8 h.f_l_answers_hold h.fd_l_answers_hold ["_law_row", "_law_scale", "_law_known"] (spF K 3 (f_l_answers_hold h.c)) :=
  fn_okF h.F_l_answers_hold sc_l_answers_hold fun cdv A outer s H E hr => by
  have nd := nd_l_answers_hold
  have hu := hr.units
  have tk := tk_cx (P := P) (w := w) (K := K) (mg := mg) (base := base) (N := N_l_answers_hold) (qual := "_law_answers_hold") (scope := defScope s_l_answers_hold) (f := h.f_l_answers_hold) (cd := cdv) (A := A) (outer := outer) (s := s) (H := H) (E := E)
  have own := own_cx (P := P) (w := w) (K := K) (mg := mg) (base := base) (N := N_l_answers_hold) (qual := "_law_answers_hold") (scope := defScope s_l_answers_hold) (f := h.f_l_answers_hold) (cd := cdv) (A := A) (outer := outer) (s := s) (H := H) (E := E)
  exact (fs_cons (fs_setLcL (i := 3) (own := [("_law_k", 6)]) rfl rfl nd rfl rfl (sw_true rfl rfl rfl (by decide +kernel)) (fi_range1 (by rfl) h.n_range (fa_cons (fe_bu call_len sim_len (by rfl) h.n_len PyProof.Rows.Boot.«len» (fa_cons (fe_var (pv 0)) fa_nil)) fa_nil)) (blkOk_by (N := N_l_answers_hold) (sc := defScope s_l_answers_hold) (by decide +kernel)) (fun _ _ _ _ _ => (fgv_name (i := 6) (by decide) nd rfl (Or.inl rfl))) (fun _ _ _ _ _ => fts_nil) (fun _ _ _ _ _ => (fe_op op_sub sim_sub (fe_op op_mulA sim_mulA (fe_var (pv 1)) (fe_ix (fe_var (pv 0)) (fe_var (pv 6)))) (fe_ix (fe_var (pv 2)) (fe_var (pv 6))))))
      (fs_cons (fs_set (i := 4) nd rfl (Or.inl rfl) (fe_call rfl ((ok_l_best h).mono (by decide)) hr (by rfl) h.g_l_best h.F_l_best.kp (b_l_best h) .nil Dfl.nil tk (fa_cons (fe_var (pv 3)) (fa_cons (fe_var (pv 2)) fa_nil))))
      (fs_cons (fs_set (i := 5) nd rfl (Or.inl rfl) (fe_lst (fa_cons (fe_tyL rfl call_list_of sim_list (by rfl) h.n_list PyProof.Rows.Boot.«list» (fa_cons (fe_var (pv 0)) fa_nil)) (fa_cons (fe_tyL rfl call_list_of sim_list (by rfl) h.n_list PyProof.Rows.Boot.«list» (fa_cons (fe_var (pv 2)) fa_nil)) fa_nil))))
      (fs_cons (fs_for own rfl (fi_seq (fe_lst (fa_cons fe_int (fa_cons fe_int fa_nil)))) (fg_name (i := 6) nd rfl (Or.inl rfl)) (fs_cons (fs_if (ft_not (ft_val (fe_call rfl ((ok_l_same h).mono (by decide)) hr (by rfl) h.g_l_same h.F_l_same.kp (b_l_same h) .nil Dfl.nil tk (fa_cons (fe_call rfl ((ok_l_left h).mono (by decide)) hr (by rfl) h.g_l_left h.F_l_left.kp (b_l_left h) .nil Dfl.nil tk (fa_cons (fe_ix (fe_var (pv 5)) fe_int) (fa_cons (fe_var (pv 1)) (fa_cons (fe_ix (fe_var (pv 5)) fe_int) fa_nil)))) (fa_cons (fe_ty call_tupleZ sim_tuple (by rfl) h.n_tuple PyProof.Rows.Boot.«tuple» (fa_cons (fe_var (pv 3)) fa_nil)) fa_nil))))) (fs_one (fs_ret fe_bl)) fs_nil)
      (fs_one (fs_if (ft_not (ft_val (fe_call rfl ((ok_l_same h).mono (by decide)) hr (by rfl) h.g_l_same h.F_l_same.kp (b_l_same h) .nil Dfl.nil tk (fa_cons (fe_call rfl ((ok_l_chosen h).mono (by decide)) hr (by rfl) h.g_l_chosen h.F_l_chosen.kp (b_l_chosen h) .nil Dfl.nil tk (fa_cons (fe_ix (fe_var (pv 5)) fe_int) (fa_cons (fe_var (pv 1)) (fa_cons (fe_ix (fe_var (pv 5)) fe_int) fa_nil)))) (fa_cons (fe_var (pv 4)) fa_nil))))) (fs_one (fs_ret fe_bl)) fs_nil))))
      (fs_cons (fs_if (ft_cmp (op_neD hu) (nomark _) sim_ne (fe_var (pv 5)) (fe_lst (fa_cons (fe_var (pv 0)) (fa_cons (fe_var (pv 2)) fa_nil)))) (fs_one (fs_ret fe_bl)) fs_nil)
      (fs_cons (fs_if (ft_not (ft_val (fe_call rfl ((ok_l_same h).mono (by decide)) hr (by rfl) h.g_l_same h.F_l_same.kp (b_l_same h) .nil Dfl.nil tk (fa_cons (fe_call rfl ((ok_l_left h).mono (by decide)) hr (by rfl) h.g_l_left h.F_l_left.kp (b_l_left h) .nil Dfl.nil tk (fa_cons (fe_ty call_tupleZ sim_tuple (by rfl) h.n_tuple PyProof.Rows.Boot.«tuple» (fa_cons (fe_var (pv 0)) fa_nil)) (fa_cons (fe_var (pv 1)) (fa_cons (fe_ty call_tupleZ sim_tuple (by rfl) h.n_tuple PyProof.Rows.Boot.«tuple» (fa_cons (fe_var (pv 2)) fa_nil)) fa_nil)))) (fa_cons (fe_ty call_tupleZ sim_tuple (by rfl) h.n_tuple PyProof.Rows.Boot.«tuple» (fa_cons (fe_var (pv 3)) fa_nil)) fa_nil))))) (fs_one (fs_ret fe_bl)) fs_nil)
      (fs_cons (fs_if (ft_not (ft_val (fe_call rfl ((ok_l_same h).mono (by decide)) hr (by rfl) h.g_l_same h.F_l_same.kp (b_l_same h) .nil Dfl.nil tk (fa_cons (fe_call rfl ((ok_l_chosen h).mono (by decide)) hr (by rfl) h.g_l_chosen h.F_l_chosen.kp (b_l_chosen h) .nil Dfl.nil tk (fa_cons (fe_ty call_tupleZ sim_tuple (by rfl) h.n_tuple PyProof.Rows.Boot.«tuple» (fa_cons (fe_var (pv 0)) fa_nil)) (fa_cons (fe_var (pv 1)) (fa_cons (fe_ty call_tupleZ sim_tuple (by rfl) h.n_tuple PyProof.Rows.Boot.«tuple» (fa_cons (fe_var (pv 2)) fa_nil)) fa_nil)))) (fa_cons (fe_var (pv 4)) fa_nil))))) (fs_one (fs_ret fe_bl)) fs_nil)
      (fs_cons (fs_seti rfl (fe_op op_sub sim_sub fe_int (fe_ix (fe_var (pv 0)) fe_int)) (fe_ix (fe_var (pv 5)) fe_int) fe_int)
      (fs_cons (fs_seti rfl (fe_op op_sub sim_sub (fe_op op_mulA sim_mulA (fe_var (pv 1)) (fe_ix (fe_ix (fe_var (pv 5)) fe_int) fe_int)) (fe_ix (fe_var (pv 2)) fe_int)) (fe_var (pv 3)) fe_int)
      (fs_cons (fs_set (i := 4) nd rfl (Or.inl rfl) (fe_call rfl ((ok_l_best h).mono (by decide)) hr (by rfl) h.g_l_best h.F_l_best.kp (b_l_best h) .nil Dfl.nil tk (fa_cons (fe_var (pv 3)) (fa_cons (fe_var (pv 2)) fa_nil))))
      (fs_cons (fs_if (ft_not (ft_val (fe_call rfl ((ok_l_same h).mono (by decide)) hr (by rfl) h.g_l_same h.F_l_same.kp (b_l_same h) .nil Dfl.nil tk (fa_cons (fe_call rfl ((ok_l_left h).mono (by decide)) hr (by rfl) h.g_l_left h.F_l_left.kp (b_l_left h) .nil Dfl.nil tk (fa_cons (fe_ix (fe_var (pv 5)) fe_int) (fa_cons (fe_var (pv 1)) (fa_cons (fe_ix (fe_var (pv 5)) fe_int) fa_nil)))) (fa_cons (fe_ty call_tupleZ sim_tuple (by rfl) h.n_tuple PyProof.Rows.Boot.«tuple» (fa_cons (fe_var (pv 3)) fa_nil)) fa_nil))))) (fs_one (fs_ret fe_bl)) fs_nil)
      (fs_one (fs_ret (fe_call rfl ((ok_l_same h).mono (by decide)) hr (by rfl) h.g_l_same h.F_l_same.kp (b_l_same h) .nil Dfl.nil tk (fa_cons (fe_call rfl ((ok_l_chosen h).mono (by decide)) hr (by rfl) h.g_l_chosen h.F_l_chosen.kp (b_l_chosen h) .nil Dfl.nil tk (fa_cons (fe_ix (fe_var (pv 5)) fe_int) (fa_cons (fe_var (pv 1)) (fa_cons (fe_ix (fe_var (pv 5)) fe_int) fa_nil)))) (fa_cons (fe_var (pv 4)) fa_nil))))))))))))))))
theorem ok_l_answers_hold (h : Hs P w K mg) : FnOk P w K mg base (L2.CX P w) 8 h.f_l_answers_hold h.fd_l_answers_hold ["_law_row", "_law_scale", "_law_known"] (spF K 3 (m_l_answers_hold h.c)) := (raw_l_answers_hold h).nice fun ds S _ => fz_nice _ ds S
theorem nd_l_refused : N_l_refused.Nodup := by decide +kernel
theorem sc_l_refused : FnScope N_l_refused ["_law_actual", "_law_what", "_law_number"] (defScope s_l_refused) := ⟨rfl, rfl, rfl, by decide +kernel, rfl, by decide +kernel, by decide +kernel⟩
theorem b_l_refused (h : Hs P w K mg) : Binds K h.fd_l_refused ["_law_actual", "_law_what", "_law_number"] [] := h.F_l_refused.bindsN fun _ _ _ _ _ _ us hl => match us, hl with | [_, _, _], _ => rfl
theorem ok_l_refused (h : Hs P w K mg) : FnOk P w K mg base (L2.CX P w) 8 h.f_l_refused h.fd_l_refused ["_law_actual", "_law_what", "_law_number"] (spF K 3 (f_l_refused)) :=
  fn_okF h.F_l_refused sc_l_refused fun cdv A outer s H E hr => by
  have nd := nd_l_refused
  have hu := hr.units
  have tk := tk_cx (P := P) (w := w) (K := K) (mg := mg) (base := base) (N := N_l_refused) (qual := "_law_refused") (scope := defScope s_l_refused) (f := h.f_l_refused) (cd := cdv) (A := A) (outer := outer) (s := s) (H := H) (E := E)
  have own := own_cx (P := P) (w := w) (K := K) (mg := mg) (base := base) (N := N_l_refused) (qual := "_law_refused") (scope := defScope s_l_refused) (f := h.f_l_refused) (cd := cdv) (A := A) (outer := outer) (s := s) (H := H) (E := E)
  exact (fs_cons (fs_if (fw_t (fw_or (ft_not (ft_val (fe_bu call_isA (sim_isi (tab := []) (fun q hq => by first | exact hq | (rw [List.mem_singleton.mp hq]; exact List.mem_cons_self) | cases hq) (fun q hq => by cases hq)) (by rfl) h.n_isinstance PyProof.Rows.Boot.«isinstance» (fa_cons (fe_var (pv 0)) (fa_cons (fe_c (v := .ty "list") (pe_bltn (by rfl) h.n_list PyProof.Rows.Boot.«list» rfl) fun _ => .ty _) fa_nil))))) (fw_or1 (ft_cmp (op_neD hu) (nomark _) sim_ne (fe_bu call_len sim_len (by rfl) h.n_len PyProof.Rows.Boot.«len» (fa_cons (fe_var (pv 0)) fa_nil)) fe_int)))) (fs_one (fs_ret fe_bl)) fs_nil)
      (fs_cons (fs_if (fw_t (fw_or (ft_not (ft_val (fe_call rfl ((ok_l_same h).mono (by decide)) hr (by rfl) h.g_l_same h.F_l_same.kp (b_l_same h) .nil Dfl.nil tk (fa_cons (fe_ix (fe_var (pv 0)) fe_int) (fa_cons (fe_var (pv 1)) fa_nil))))) (fw_or1 (ft_not (ft_val (fe_call rfl ((ok_l_same h).mono (by decide)) hr (by rfl) h.g_l_same h.F_l_same.kp (b_l_same h) .nil Dfl.nil tk (fa_cons (fe_ix (fe_var (pv 0)) fe_int) (fa_cons (fe_var (pv 2)) fa_nil)))))))) (fs_one (fs_ret fe_bl)) fs_nil)
      (fs_one (fs_ret (fe_cmp op_is_bl (nomark _) sim_isB (fe_ix (fe_var (pv 0)) fe_int) fe_bl)))))
theorem nd_l_odd_holds : N_l_odd_holds.Nodup := by decide +kernel
theorem sc_l_odd_holds : FnScope N_l_odd_holds ["_law_row", "_law_scale", "_law_known"] (defScope s_l_odd_holds) := ⟨rfl, rfl, rfl, by decide +kernel, rfl, by decide +kernel, by decide +kernel⟩
theorem b_l_odd_holds (h : Hs P w K mg) : Binds K h.fd_l_odd_holds ["_law_row", "_law_scale", "_law_known"] [] := h.F_l_odd_holds.bindsN fun _ _ _ _ _ _ us hl => match us, hl with | [_, _, _], _ => rfl
theorem ok_l_odd_holds (h : Hs P w K mg) : FnOk P w K mg base (L2.CX P w) 9 h.f_l_odd_holds h.fd_l_odd_holds ["_law_row", "_law_scale", "_law_known"] (spF K 3 (f_l_odd_holds h.c)) :=
  fn_okF h.F_l_odd_holds sc_l_odd_holds fun cdv A outer s H E hr => by
  have nd := nd_l_odd_holds
  have hu := hr.units
  have tk := tk_cx (P := P) (w := w) (K := K) (mg := mg) (base := base) (N := N_l_odd_holds) (qual := "_law_odd_holds") (scope := defScope s_l_odd_holds) (f := h.f_l_odd_holds) (cd := cdv) (A := A) (outer := outer) (s := s) (H := H) (E := E)
  have own := own_cx (P := P) (w := w) (K := K) (mg := mg) (base := base) (N := N_l_odd_holds) (qual := "_law_odd_holds") (scope := defScope s_l_odd_holds) (f := h.f_l_odd_holds) (cd := cdv) (A := A) (outer := outer) (s := s) (H := H) (E := E)
  exact (fs_cons (fs_set (i := 3) nd rfl (Or.inl rfl) (fe_call rfl ((ok_l_wrong h).mono (by decide)) hr (by rfl) h.g_l_wrong h.F_l_wrong.kp (b_l_wrong h) .nil Dfl.nil tk (fa_cons (fe_var (pv 0)) (fa_cons (fe_var (pv 1)) (fa_cons (fe_var (pv 2)) fa_nil)))))
      (fs_cons (fs_if (ft_cmp op_isN (nomark _) sim_isN (fe_var (pv 3)) fe_non) (fs_one (fs_ret (fe_call rfl ((ok_l_answers_hold h).mono (by decide)) hr (by rfl) h.g_l_answers_hold h.F_l_answers_hold.kp (b_l_answers_hold h) .nil Dfl.nil tk (fa_cons (fe_var (pv 0)) (fa_cons (fe_var (pv 1)) (fa_cons (fe_var (pv 2)) fa_nil)))))) fs_nil)
      (fs_cons (fs_set (i := 4) nd rfl (Or.inl rfl) (fe_lst (fa_cons (fe_ty call_list_of (SimL.val sim_list) (by rfl) h.n_list PyProof.Rows.Boot.«list» (fa_cons (fe_var (pv 0)) fa_nil)) (fa_cons (fe_ty call_list_of (SimL.val sim_list) (by rfl) h.n_list PyProof.Rows.Boot.«list» (fa_cons (fe_var (pv 2)) fa_nil)) fa_nil))))
      (fs_cons (fs_if (ft_not (ft_val (fe_call rfl ((ok_l_refused h).mono (by decide)) hr (by rfl) h.g_l_refused h.F_l_refused.kp (b_l_refused h) .nil Dfl.nil tk (fa_cons (fe_call rfl ((ok_l_left h).mono (by decide)) hr (by rfl) h.g_l_left h.F_l_left.kp (b_l_left h) .nil Dfl.nil tk (fa_cons (fe_ix (fe_var (pv 4)) fe_int) (fa_cons (fe_var (pv 1)) (fa_cons (fe_ix (fe_var (pv 4)) fe_int) fa_nil)))) (fa_cons (fe_ix (fe_var (pv 3)) fe_int) (fa_cons (fe_ix (fe_var (pv 3)) fe_int) fa_nil)))))) (fs_one (fs_ret fe_bl)) fs_nil)
      (fs_cons (fs_if (ft_not (ft_val (fe_call rfl ((ok_l_refused h).mono (by decide)) hr (by rfl) h.g_l_refused h.F_l_refused.kp (b_l_refused h) .nil Dfl.nil tk (fa_cons (fe_call rfl ((ok_l_chosen h).mono (by decide)) hr (by rfl) h.g_l_chosen h.F_l_chosen.kp (b_l_chosen h) .nil Dfl.nil tk (fa_cons (fe_ix (fe_var (pv 4)) fe_int) (fa_cons (fe_var (pv 1)) (fa_cons (fe_ix (fe_var (pv 4)) fe_int) fa_nil)))) (fa_cons (fe_ix (fe_var (pv 3)) fe_int) (fa_cons (fe_ix (fe_var (pv 3)) fe_int) fa_nil)))))) (fs_one (fs_ret fe_bl)) fs_nil)
      (fs_one (fs_ret (fe_cmp (op_eqD hu) (nomark _) sim_eq (fe_var (pv 4)) (fe_lst (fa_cons (fe_var (pv 0)) (fa_cons (fe_var (pv 2)) fa_nil)))))))))))
theorem nd_l_refusals_hold : N_l_refusals_hold.Nodup := by decide +kernel
theorem sc_l_refusals_hold : FnScope N_l_refusals_hold ["_law_pool", "_law_case_here"] (defScope s_l_refusals_hold) := ⟨rfl, rfl, rfl, by decide +kernel, rfl, by decide +kernel, by decide +kernel⟩
theorem b_l_refusals_hold (h : Hs P w K mg) : Binds K h.fd_l_refusals_hold ["_law_pool", "_law_case_here"] [] := h.F_l_refusals_hold.bindsN fun _ _ _ _ _ _ us hl => match us, hl with | [_, _], _ => rfl
theorem ok_l_refusals_hold (h : Hs P w K mg) : FnOk P w K mg base (L2.CX P w) 10 h.f_l_refusals_hold h.fd_l_refusals_hold ["_law_pool", "_law_case_here"] (spF K 2 (f_l_refusals_hold h.c)) :=
  fn_okF h.F_l_refusals_hold sc_l_refusals_hold fun cdv A outer s H E hr => by
  have nd := nd_l_refusals_hold
  have hu := hr.units
  have tk := tk_cx (P := P) (w := w) (K := K) (mg := mg) (base := base) (N := N_l_refusals_hold) (qual := "_law_refusals_hold") (scope := defScope s_l_refusals_hold) (f := h.f_l_refusals_hold) (cd := cdv) (A := A) (outer := outer) (s := s) (H := H) (E := E)
  have own := own_cx (P := P) (w := w) (K := K) (mg := mg) (base := base) (N := N_l_refusals_hold) (qual := "_law_refusals_hold") (scope := defScope s_l_refusals_hold) (f := h.f_l_refusals_hold) (cd := cdv) (A := A) (outer := outer) (s := s) (H := H) (E := E)
  exact (fs_cons (fs_for own rfl (fi_range1 (by rfl) h.n_range (fa_cons fe_int fa_nil)) (fg_name (i := 2) nd rfl (Or.inl rfl)) (fs_cons (fs_set (i := 3) nd rfl (Or.inl rfl) (fe_call rfl ((ok_l_bent h).mono (by decide)) hr (by rfl) h.g_l_bent h.F_l_bent.kp (b_l_bent h) .nil Dfl.nil tk (fa_cons (fe_var (pv 1)) (fa_cons (fe_var (pv 2)) (fa_cons (fe_call rfl ((ok_l_draw h).mono (by decide)) hr (by rfl) h.g_l_draw h.F_l_draw.kp (b_l_draw h) .nil Dfl.nil tk (fa_cons (fe_var (pv 0)) (fa_cons fe_int fa_nil))) (fa_cons (fe_call rfl ((ok_l_draw h).mono (by decide)) hr (by rfl) h.g_l_draw h.F_l_draw.kp (b_l_draw h) .nil Dfl.nil tk (fa_cons (fe_var (pv 0)) (fa_cons fe_int fa_nil))) fa_nil))))))
      (fs_cons (fs_if (ft_not (ft_val (fe_call rfl ((ok_l_odd_holds h).mono (by decide)) hr (by rfl) h.g_l_odd_holds h.F_l_odd_holds.kp (b_l_odd_holds h) .nil Dfl.nil tk (fa_cons (fe_ix (fe_var (pv 3)) fe_int) (fa_cons (fe_ix (fe_var (pv 3)) fe_int) (fa_cons (fe_ix (fe_var (pv 3)) fe_int) fa_nil)))))) (fs_one (fs_ret fe_bl)) fs_nil)
      (fs_cons (fs_set (i := 4) nd rfl (Or.inl rfl) (fe_op op_mod sim_mod (fe_ty call_int1 sim_int (by rfl) h.n_int PyProof.Rows.Boot.«int» (fa_cons (fe_op op_addA sim_add (fe_op op_addA sim_add (fe_op op_mulA sim_mulA fe_int (fe_var (pv 2))) fe_int) (fe_call rfl ((ok_l_draw h).mono (by decide)) hr (by rfl) h.g_l_draw h.F_l_draw.kp (b_l_draw h) .nil Dfl.nil tk (fa_cons (fe_var (pv 0)) (fa_cons fe_int fa_nil)))) fa_nil)) fe_int))
      (fs_cons (fs_set (i := 3) nd rfl (Or.inl rfl) (fe_call rfl ((ok_l_bent h).mono (by decide)) hr (by rfl) h.g_l_bent h.F_l_bent.kp (b_l_bent h) .nil Dfl.nil tk (fa_cons (fe_var (pv 3)) (fa_cons (fe_var (pv 4)) (fa_cons (fe_call rfl ((ok_l_draw h).mono (by decide)) hr (by rfl) h.g_l_draw h.F_l_draw.kp (b_l_draw h) .nil Dfl.nil tk (fa_cons (fe_var (pv 0)) (fa_cons fe_int fa_nil))) (fa_cons (fe_call rfl ((ok_l_draw h).mono (by decide)) hr (by rfl) h.g_l_draw h.F_l_draw.kp (b_l_draw h) .nil Dfl.nil tk (fa_cons (fe_var (pv 0)) (fa_cons fe_int fa_nil))) fa_nil))))))
      (fs_one (fs_if (ft_not (ft_val (fe_call rfl ((ok_l_odd_holds h).mono (by decide)) hr (by rfl) h.g_l_odd_holds h.F_l_odd_holds.kp (b_l_odd_holds h) .nil Dfl.nil tk (fa_cons (fe_ix (fe_var (pv 3)) fe_int) (fa_cons (fe_ix (fe_var (pv 3)) fe_int) (fa_cons (fe_ix (fe_var (pv 3)) fe_int) fa_nil)))))) (fs_one (fs_ret fe_bl)) fs_nil)))))))
      (fs_one (fs_ret fe_bl)))
theorem nd_law : N_law.Nodup := by decide +kernel
theorem sc_law : FnScope N_law ["_law_script"] (defScope s_law) := ⟨rfl, rfl, rfl, by decide +kernel, rfl, by decide +kernel, by decide +kernel⟩
theorem ok_law (h : Hs P w K mg) : FnOk P w K mg base (L2.CX P w) 11 h.f_law h.fd_law ["_law_script"] (spF K 1 (f_law h.c)) :=
  fn_okF h.F_law sc_law fun cdv A outer s H E hr => by
  have nd := nd_law
  have hu := hr.units
  have tk := tk_cx (P := P) (w := w) (K := K) (mg := mg) (base := base) (N := N_law) (qual := "law") (scope := defScope s_law) (f := h.f_law) (cd := cdv) (A := A) (outer := outer) (s := s) (H := H) (E := E)
  have own := own_cx (P := P) (w := w) (K := K) (mg := mg) (base := base) (N := N_law) (qual := "law") (scope := defScope s_law) (f := h.f_law) (cd := cdv) (A := A) (outer := outer) (s := s) (H := H) (E := E)
  exact (fs_cons (fs_set (i := 0) nd rfl (Or.inl rfl) (fe_ty call_list_of (SimL.val sim_list) (by rfl) h.n_list PyProof.Rows.Boot.«list» (fa_cons (fe_sl (fe_var (pv 0)) fo_none (fo_some fe_int)) fa_nil)))
      (fs_cons (fs_set (i := 1) nd rfl (Or.inr rfl) (fe_lcL (own := [("_law_cell", 4)]) rfl rfl nd (fi_rev (by rfl) h.n_reversed (fe_var (pv 0))) (blkOk_by (N := N_law) (sc := defScope s_law) (by decide +kernel)) (fun _ _ _ _ _ => (fgv_name (i := 4) (by decide) nd rfl (Or.inl rfl))) (fun _ _ _ _ _ => fts_nil) (fun _ _ _ _ _ => (fe_bu call_abs sim_abs (by rfl) h.n_abs PyProof.Rows.Boot.«abs» (fa_cons (fe_var (pv 4)) fa_nil)))))
      (fs_cons (fs_setLc (i := 2) (own := [("_law_plain", 5)]) rfl nd rfl rfl (sw_true rfl rfl rfl (by decide +kernel)) (fi_seq (fe_lst (fa_cons fe_int (fa_cons fe_int (fa_cons fe_int (fa_cons fe_int fa_nil)))))) (blkOk_by (N := N_law) (sc := defScope s_law) (by decide +kernel)) (fun _ _ _ _ _ => (fgv_name (i := 5) (by decide) nd rfl (Or.inl rfl))) (fun _ _ _ _ _ => fts_nil) (fun _ _ _ _ _ => (fe_call rfl ((ok_l_case h).mono (by decide)) hr (by rfl) h.g_l_case h.F_l_case.kp (b_l_case h) .nil Dfl.nil tkF (fa_cons (fe_var (pv 1)) (fa_cons (fe_var (pv 5)) fa_nil)))))
      (fs_cons (fs_for own rfl (fi_seq (fe_op op_addA sim_add (fe_var (pv 2)) (fe_lst (fa_cons (fe_ix (fe_var (pv 2)) fe_int) fa_nil)))) (fg_name (i := 3) nd rfl (Or.inl rfl)) (fs_one (fs_if (ft_not (ft_val (fe_call rfl ((ok_l_answers_hold h).mono (by decide)) hr (by rfl) h.g_l_answers_hold h.F_l_answers_hold.kp (b_l_answers_hold h) .nil Dfl.nil tk (fa_cons (fe_ix (fe_var (pv 3)) fe_int) (fa_cons (fe_ix (fe_var (pv 3)) fe_int) (fa_cons (fe_ix (fe_var (pv 3)) fe_int) fa_nil)))))) (fs_one (fs_ret fe_bl)) fs_nil)))
      (fs_one (fs_ret (fe_and (fe_call rfl ((ok_l_refusals_hold h).mono (by decide)) hr (by rfl) h.g_l_refusals_hold h.F_l_refusals_hold.kp (b_l_refusals_hold h) .nil Dfl.nil tk (fa_cons (fe_var (pv 1)) (fa_cons (fe_ix (fe_var (pv 2)) fe_int) fa_nil))) (fe_one (fe_call rfl ((ok_l_refusals_hold h).mono (by decide)) hr (by rfl) h.g_l_refusals_hold h.F_l_refusals_hold.kp (b_l_refusals_hold h) .nil Dfl.nil tk (fa_cons (fe_var (pv 1)) (fa_cons (fe_ix (fe_var (pv 2)) fe_int) fa_nil)))))))))))
end
end K51
set_option maxRecDepth 100000
set_option maxHeartbeats 0
namespace K51
open PySem PySem.Spec PyProof.Rows L2 FL

theorem errB_ok {K : PySem.W.Frag} {x : Str} (h : errB K x = true) : OexC K (He.ga K x) ∧ PySem.W.findIn K (.ref (He.ga K x)) "__init__" = some (some (.ref (He.fAd K (x, some "__init__")))) ∧ PySem.W.typeIn K (.ref (He.fAd K (x, some "__init__"))) = some (.type "function") ∧ L2.ExcC K (He.ga K x) ∧ (PySem.W.clsIn K (He.ga K x)).isSome = true ∧ XfC K (He.ga K x) := by
  obtain ⟨h1, h⟩ := Bool.and_eq_true_iff.mp h
  obtain ⟨h2, h⟩ := Bool.and_eq_true_iff.mp h
  obtain ⟨h3, h⟩ := Bool.and_eq_true_iff.mp h
  obtain ⟨h4, h⟩ := Bool.and_eq_true_iff.mp h
  obtain ⟨h5, h6⟩ := Bool.and_eq_true_iff.mp h
  exact ⟨HX.oexB_ok h1, of_decide_eq_true h2, of_decide_eq_true h3, HX.excB_ok h4, h5, xfB_ok h6⟩
theorem facts {P : Program} {w : World} {K : PySem.W.Frag} {h : Heap} {mg : Str → Option Value} (X : K.In h) (G : h.Ns mainGlobals mg) (y : HX.SaysY dsX dsF dsD dsA K) : ∃ hs : Hs P w K mg, hs.f_law = He.ga K "law" := by
  have c : He.SaysD dsF dsD K := HX.SaysY.d y
  have x := HX.SaysY.x y
  obtain ⟨fd_l_draw, F_l_draw⟩ := c.def_ 0 rfl
  obtain ⟨fd_l_measure, F_l_measure⟩ := c.def_ 1 rfl
  obtain ⟨fd_l_cost, F_l_cost⟩ := c.def_ 2 rfl
  obtain ⟨fd_l_case, F_l_case⟩ := c.def_ 3 rfl
  obtain ⟨fd_l_bent, F_l_bent⟩ := c.def_ 4 rfl
  obtain ⟨fd_l_wrong, F_l_wrong⟩ := c.def_ 5 rfl
  obtain ⟨fd_l_best, F_l_best⟩ := c.def_ 6 rfl
  obtain ⟨fd_l_same, F_l_same⟩ := c.def_ 7 rfl
  obtain ⟨fd_within, F_within⟩ := c.def_ 8 rfl
  obtain ⟨fd_row_scale_look, F_row_scale_look⟩ := c.def_ 9 rfl
  obtain ⟨fd_left_at, F_left_at⟩ := c.def_ 10 rfl
  obtain ⟨fd_choose, F_choose⟩ := c.def_ 11 rfl
  obtain ⟨fd_l_chosen, F_l_chosen⟩ := c.def_ 12 rfl
  obtain ⟨fd_l_left, F_l_left⟩ := c.def_ 13 rfl
  obtain ⟨fd_l_answers_hold, F_l_answers_hold⟩ := c.def_ 14 rfl
  obtain ⟨fd_l_refused, F_l_refused⟩ := c.def_ 15 rfl
  obtain ⟨fd_l_odd_holds, F_l_odd_holds⟩ := c.def_ 16 rfl
  obtain ⟨fd_l_refusals_hold, F_l_refusals_hold⟩ := c.def_ 17 rfl
  obtain ⟨fd_law, F_law⟩ := c.def_ 18 rfl
  obtain ⟨jd_OutOfRange, J_OutOfRange⟩ := c.def_ 19 rfl
  have b_OutOfRange := errB_ok (x := "OutOfRange") (x 0 rfl)
  exact ⟨{ c := fun x => He.ga K (PySem.Str.ofString x),
            f_l_draw := He.ga K "_law_draw", fd_l_draw := fd_l_draw, F_l_draw := F_l_draw, g_l_draw := He.glo_ok X G (c.fact 0 (f := .glo "_law_draw") rfl),
            f_l_measure := He.ga K "_law_measure", fd_l_measure := fd_l_measure, F_l_measure := F_l_measure, g_l_measure := He.glo_ok X G (c.fact 1 (f := .glo "_law_measure") rfl),
            f_l_cost := He.ga K "_law_cost", fd_l_cost := fd_l_cost, F_l_cost := F_l_cost, g_l_cost := He.glo_ok X G (c.fact 2 (f := .glo "_law_cost") rfl),
            f_l_case := He.ga K "_law_case", fd_l_case := fd_l_case, F_l_case := F_l_case, g_l_case := He.glo_ok X G (c.fact 3 (f := .glo "_law_case") rfl),
            f_l_bent := He.ga K "_law_bent", fd_l_bent := fd_l_bent, F_l_bent := F_l_bent, g_l_bent := He.glo_ok X G (c.fact 4 (f := .glo "_law_bent") rfl),
            f_l_wrong := He.ga K "_law_wrong", fd_l_wrong := fd_l_wrong, F_l_wrong := F_l_wrong, g_l_wrong := He.glo_ok X G (c.fact 5 (f := .glo "_law_wrong") rfl),
            f_l_best := He.ga K "_law_best", fd_l_best := fd_l_best, F_l_best := F_l_best, g_l_best := He.glo_ok X G (c.fact 6 (f := .glo "_law_best") rfl),
            f_l_same := He.ga K "_law_same", fd_l_same := fd_l_same, F_l_same := F_l_same, g_l_same := He.glo_ok X G (c.fact 7 (f := .glo "_law_same") rfl),
            f_within := He.ga K "within", fd_within := fd_within, F_within := F_within, g_within := He.glo_ok X G (c.fact 8 (f := .glo "within") rfl),
            f_row_scale_look := He.ga K "row_scale_look", fd_row_scale_look := fd_row_scale_look, F_row_scale_look := F_row_scale_look, g_row_scale_look := He.glo_ok X G (c.fact 9 (f := .glo "row_scale_look") rfl),
            f_left_at := He.ga K "left_at", fd_left_at := fd_left_at, F_left_at := F_left_at, g_left_at := He.glo_ok X G (c.fact 10 (f := .glo "left_at") rfl),
            f_choose := He.ga K "choose", fd_choose := fd_choose, F_choose := F_choose, g_choose := He.glo_ok X G (c.fact 11 (f := .glo "choose") rfl),
            f_l_chosen := He.ga K "_law_chosen", fd_l_chosen := fd_l_chosen, F_l_chosen := F_l_chosen, g_l_chosen := He.glo_ok X G (c.fact 12 (f := .glo "_law_chosen") rfl),
            f_l_left := He.ga K "_law_left", fd_l_left := fd_l_left, F_l_left := F_l_left, g_l_left := He.glo_ok X G (c.fact 13 (f := .glo "_law_left") rfl),
            f_l_answers_hold := He.ga K "_law_answers_hold", fd_l_answers_hold := fd_l_answers_hold, F_l_answers_hold := F_l_answers_hold, g_l_answers_hold := He.glo_ok X G (c.fact 14 (f := .glo "_law_answers_hold") rfl),
            f_l_refused := He.ga K "_law_refused", fd_l_refused := fd_l_refused, F_l_refused := F_l_refused, g_l_refused := He.glo_ok X G (c.fact 15 (f := .glo "_law_refused") rfl),
            f_l_odd_holds := He.ga K "_law_odd_holds", fd_l_odd_holds := fd_l_odd_holds, F_l_odd_holds := F_l_odd_holds, g_l_odd_holds := He.glo_ok X G (c.fact 16 (f := .glo "_law_odd_holds") rfl),
            f_l_refusals_hold := He.ga K "_law_refusals_hold", fd_l_refusals_hold := fd_l_refusals_hold, F_l_refusals_hold := F_l_refusals_hold, g_l_refusals_hold := He.glo_ok X G (c.fact 17 (f := .glo "_law_refusals_hold") rfl),
            f_law := He.ga K "law", fd_law := fd_law, F_law := F_law, g_law := He.glo_ok X G (c.fact 18 (f := .glo "law") rfl),
            n_ValueError := He.free_ok X G (c.fact 19 (f := .free "ValueError") rfl),
            n_abs := He.free_ok X G (c.fact 20 (f := .free "abs") rfl),
            n_bool := He.free_ok X G (c.fact 21 (f := .free "bool") rfl),
            n_int := He.free_ok X G (c.fact 22 (f := .free "int") rfl),
            n_isinstance := He.free_ok X G (c.fact 23 (f := .free "isinstance") rfl),
            n_len := He.free_ok X G (c.fact 24 (f := .free "len") rfl),
            n_list := He.free_ok X G (c.fact 25 (f := .free "list") rfl),
            n_max := He.free_ok X G (c.fact 26 (f := .free "max") rfl),
            n_range := He.free_ok X G (c.fact 27 (f := .free "range") rfl),
            n_reversed := He.free_ok X G (c.fact 28 (f := .free "reversed") rfl),
            n_str := He.free_ok X G (c.fact 29 (f := .free "str") rfl),
            n_tuple := He.free_ok X G (c.fact 30 (f := .free "tuple") rfl),
            n_zip := He.free_ok X G (c.fact 31 (f := .free "zip") rfl),
            i_MOST_DESKS := He.int_ok X G (c.fact 32 (f := .int "MOST_DESKS" 6) rfl),
            i_MOST_WORTH := He.int_ok X G (c.fact 33 (f := .int "MOST_WORTH" 99) rfl),
            i_MOST_PRICE := He.int_ok X G (c.fact 34 (f := .int "MOST_PRICE" 9999) rfl),
            i_MOST_SCALE := He.int_ok X G (c.fact 35 (f := .int "MOST_SCALE" 100) rfl),
            gc_OutOfRange := He.glo_ok X G (c.fact 36 (f := .glo "OutOfRange") rfl),
            gc_HeldError := He.glo_ok X G (c.fact 37 (f := .glo "HeldError") rfl),
            gc_Unread := He.glo_ok X G (c.fact 38 (f := .glo "Unread") rfl),
            gc_BadWord := He.glo_ok X G (c.fact 39 (f := .glo "BadWord") rfl),
            gc_NoLetter := He.glo_ok X G (c.fact 40 (f := .glo "NoLetter") rfl),
            x_OutOfRange_OutOfRange := He.exm_ok (c.fact 41 (f := .exm "OutOfRange" "OutOfRange" true) rfl),
            j_OutOfRange := He.fAd K ("OutOfRange", some "__init__"), jd_OutOfRange := jd_OutOfRange, J_OutOfRange := J_OutOfRange, e_OutOfRange := ⟨b_OutOfRange.1, He.glo_ok X G (c.fact 36 (f := .glo "OutOfRange") rfl), b_OutOfRange.2.1, b_OutOfRange.2.2.1⟩, ex_OutOfRange := b_OutOfRange.2.2.2.1, cl_OutOfRange := b_OutOfRange.2.2.2.2.1, xf_OutOfRange := b_OutOfRange.2.2.2.2.2,
            no_OutOfRange_what := of_decide_eq_true (x 1 rfl),
            no_OutOfRange_value := of_decide_eq_true (x 2 rfl),
            k_OutOfRange_BadWord := of_decide_eq_true (x 3 rfl),
            k_OutOfRange_HeldError := of_decide_eq_true (x 4 rfl),
            k_OutOfRange_NoLetter := of_decide_eq_true (x 5 rfl),
            k_OutOfRange_Unread := of_decide_eq_true (x 6 rfl),
            k_OutOfRange_ValueError := of_decide_eq_true (x 7 rfl) }, rfl⟩
end K51
set_option maxRecDepth 100000
set_option maxHeartbeats 0
namespace K51
open PySem PySem.Spec PyProof.Rows L2 FL
/-! ### no exception: for the head -/
theorem toCX0 {P : Program} {w : World} {K : PySem.W.Frag} {mg : Str → Option Value} {base : Heap} {k : Nat} {f : PySem.Addr} {fd : FuncData} {ps : List Str} {sp : Sp} (F : FnOk P w K mg base (L2.CX P w) k f fd ps sp) (h : ∀ vs H Q E E', sp vs H Q E → sp vs H Q E') : FnOk P w K mg base CX0 k f fd ps sp :=
  ⟨F.len, fun A outer s H args us vs Q E hr e0 hb r hsp => codeAny_mono (F.run A outer s H args us vs Q E0 hr e0 hb r (h _ _ _ _ _ hsp)) fun res s' q => by
    cases res with
    | error e =>
      obtain ⟨_, _, _, _, _, _, _, _, _, _, _, _, z⟩ := q
      exact z.elim
    | ok fl => cases fl <;> exact q⟩
def spLaw (K : PySem.W.Frag) : Sp := fun vs H Q _ => ∃ (a : PySem.Addr) (ns : List Int), vs = [.ref a] ∧ ns.length ≤ 63 ∧ SqL K H a (ns.map V.int) ∧ ∀ H', Q (.bl true) H'
theorem law_ok (he : ∀ (c : String → PySem.Addr) (ns : List Int), ns.length ≤ 63 → ∃ S', f_law c [.fls (iD ns)] [] = .ok (.bl true) S') {P : Program} {w : World} {K : PySem.W.Frag} {mg : Str → Option Value} {base : Heap} (h : Hs P w K mg) : FnOk P w K mg base CX0 11 h.f_law h.fd_law ["_law_script"] (spLaw K) := by
  refine toCX0 ((ok_law (base := base) h).imp fun vs H Q E ⟨a, ns, hv, hn, hS, hQ⟩ => ?_) fun _ _ _ _ _ q => q
  subst hv
  obtain ⟨S', e⟩ := he h.c ns hn
  have nm : ∀ b, ¬ (Vw.mk (fun _ => 0) [] H []).mut b := fun b z => by
    rcases z with ⟨m, hm, _⟩ | z
    · exact absurd hm (Nat.not_lt_zero m)
    · cases z
  refine ⟨⟨fun _ => 0, [], H, []⟩, [.fls (iD ns)], rfl, ⟨fun i j hi _ _ => absurd hi (Nat.not_lt_zero i), fun z hz => (by cases hz), fun m hm => absurd hm (Nat.not_lt_zero m), fun m c q => (by cases q)⟩, .cons (.fls (hS.imp (fun h => ⟨h, nm a⟩) id) (reps_ints ns)) .nil, rfl, ?_⟩
  rw [e]
  intro w' _ _ _ v r
  cases r
  exact hQ _
end K51
set_option maxRecDepth 100000
set_option maxHeartbeats 0
section
open PySem PySem.W PySem.Calls PyProof.Rows
theorem K51.end0 (he : ∀ (c : String → PySem.Addr) (ns : List Int), ns.length ≤ 63 → ∃ S', K51.f_law c [.fls (FL.iD ns)] [] = .ok (.bl true) S') : PySem.Challenge.rw_heldbest_k51_choosing.Holds := by
  w_on; o_law
  refine HandSHeadRun.head_any (r := OpenLaw.row PySem.Challenge.rw_heldbest_k51_choosing) (q := view (OpenLaw.row PySem.Challenge.rw_heldbest_k51_choosing).prog [31]) (H := K51.hk) (ob := K51.ob) (M := 30000) (loose := K51.names) (d := HandSHeadRun.topDef (OpenLaw.row PySem.Challenge.rw_heldbest_k51_choosing).prog 31) (kwd := []) K51.ob_eq
    (by kernel_rfl) (fun s => by kernel_rfl) K51.run (by kernel_rfl) (by kernel_rfl) (by kernel_rfl) (by rfl) (by first | assumption | decide +kernel) (by decide +kernel) ⟨rfl, rfl, rfl, rfl, rfl, by decide +kernel⟩ ?hw ?hc
  case hw => w_witness2
  case hc =>
    refine L2.walk_ofE (l := PySem.Challenge.rw_heldbest_k51_choosing) (n := 63) (k := 11) (x := "_law_script") (CX := L2.CX0) rfl (by decide) (by kernel_rfl) ⟨rfl, by decide, by decide⟩ ?F (fun _ _ _ _ z => z)
    intro w mg fa h Y G hmg0
    obtain ⟨K, KX, y⟩ := Y
    have hmg : mg ("law" : PySem.Str) = some (.ref fa) := by
      have e : (HandSHeadRun.topDef (OpenLaw.row PySem.Challenge.rw_heldbest_k51_choosing).prog 31).name = ("law" : PySem.Str) := by kernel_rfl
      rw [← e]
      exact hmg0
    obtain ⟨hs, _⟩ := K51.facts (P := (PySem.Challenge.rw_heldbest_k51_choosing).prog) (w := w) KX G y
    have e2 := hmg.symm.trans hs.g_law
    cases e2
    have b := L2.FunD.bindsA (ps := ["_law_script"]) hs.F_law fun _ _ _ _ _ _ us hl => match us, hl with | [_], _ => rfl
    exact ⟨K, hs.fd_law, K51.spLaw K, KX, fun s v => b s [v] rfl, fun H a ns hl _ hS => ⟨a, ns, rfl, hl, hS, fun _ => rfl⟩, fun base _ _ => K51.law_ok he hs⟩
end
set_option maxRecDepth 100000
set_option maxHeartbeats 400000
namespace K51
open FL
local macro_rules | `(tactic| walk_at "side") => `(tactic| first | with_reducible assumption | omega)
local macro_rules | `(tactic| walk_at "mem") => `(tactic| (simp only [List.mem_cons, List.mem_singleton, true_or, decide_true]))
local macro_rules | `(tactic| walk_at "tgt") => `(tactic| ((try simp only [wipeE, List.set_cons_zero, List.set_cons_succ, gTupF, gsCons, gsNil, gN, seqOf, lisOf, lstOf, Option.bind_some, List.length_cons, List.length_nil, Nat.reduceAdd, if_true, reduceIte]); (first | done | exact rfl)))
local macro_rules | `(tactic| walk_at "get") => `(tactic| first | ((with_reducible refine (get_pool0 _ _ _).trans ?_); exact rfl) | ((with_reducible refine (get_pool _ _ _ _).trans ?_); exact rfl) | ((with_reducible refine (get_app0 _ _).trans ?_); exact rfl) | ((with_reducible refine (get_app _ _ _).trans ?_); exact rfl) | exact rfl)
local macro_rules | `(tactic| walk_at "put") => `(tactic| first | ((with_reducible refine (set_pool0 _ _ _ _).trans ?_); (simp only [List.set_cons_zero, List.set_cons_succ] <;> exact rfl)) | ((with_reducible refine (set_pool _ _ _ _ _).trans ?_); (simp only [List.set_cons_zero, List.set_cons_succ] <;> exact rfl)) | ((with_reducible refine (set_app0 _ _ _).trans ?_); (simp only [List.set_cons_zero, List.set_cons_succ] <;> exact rfl)) | ((with_reducible refine (set_app _ _ _ _).trans ?_); (simp only [List.set_cons_zero, List.set_cons_succ] <;> exact rfl)) | ((simp only [List.set_cons_zero, List.set_cons_succ] <;> exact rfl)) | exact rfl)
local macro_rules | `(tactic| walk_at "len") => `(tactic| first | omega | (simp only [List.length_map, List.length_append, List.length_cons, List.length_nil, List.length_range] <;> omega))
local macro_rules | `(tactic| walk_at "seq") => `(tactic| first | exact rfl | exact Giv.seq (by with_reducible assumption) | ((with_reducible refine seq_loc ?_); walk_at "get"))
local macro_rules | `(tactic| walk_at "bl") => `(tactic| (simp only [*, Int.toNat_natCast, decide_true, decide_false, Bool.not_true, Bool.not_false, Bool.and_true, Bool.and_false, Bool.true_and, Bool.false_and, Bool.or_true, Bool.or_false, Bool.true_or, Bool.false_or, Bool.and_self, Bool.or_self, not_false_eq_true, not_true_eq_false]))
local macro_rules | `(tactic| walk_at "w1") => `(tactic| (with_reducible first
  | (refine w_tyS ?_; first
    | (refine w_kfl ?_; (first | refine w_nx0 ?_ | refine w_out1 ?_ | refine w_rt0 ?_ | refine w_out2 ?_ | refine w_lp4 ?_ | refine w_try1 ?_ | refine w_bk0 ?_ | refine w_ct0 ?_ | refine w_lp3 ?_))
    | refine w_seq ?_
    | refine w_asg ?_
    | refine w_if ?_
    | refine w_drop ?_
    | refine w_ret ?_
    | refine w_next ?_
    | refine w_for ?_
    | refine w_retN ?_
    | refine w_try ?_
    | refine w_break ?_
    | refine w_cont ?_
    | refine w_raise ?_
    | refine w_setI ?_
    | refine w_fldD ?_
    | (refine w_kex ?_; (first | refine w_ex0 ?_ | refine w_outx ?_ | refine w_lp5 ?_ | refine w_tx0 ?_ | refine w_tx1 ?_ | refine w_tx2 ?_ | refine w_tx3 ?_ | refine w_tx4 ?_ | refine w_tx5 ?_ | refine w_tx6 ?_ | refine w_tx7 ?_ | refine w_tx8 ?_ | refine w_tx9 ?_ | refine w_tx10 ?_ | refine w_tx11 ?_ | refine w_tx12 ?_ | refine w_tx13 ?_ | refine w_tx14 ?_ | refine w_tx15 ?_ | refine w_tx16 ?_ | refine w_tx17 ?_ | refine w_tx18 ?_ | refine w_tx19 ?_ | refine w_tx20 ?_ | refine w_tx21 ?_ | refine w_tx22 ?_ | refine w_tx23 ?_ | refine w_tx24 ?_ | refine w_tx25 ?_))
    | refine w_t0 ?_
    | refine w_t1 ?_
    | refine w_t2 ?_
    | refine w_t3 ?_
    | refine w_t4 ?_
    | refine w_t5 ?_
    | refine w_t6 ?_
    | refine w_t7 ?_
    | refine w_t8 ?_
    | refine w_t9 ?_
    | refine w_t10 ?_
    | refine w_t11 ?_
    | refine w_t12 ?_
    | refine w_t13 ?_
    | refine w_t14 ?_
    | refine w_t15 ?_
    | refine w_t16 ?_
    | refine w_t17 ?_
    | refine w_t18 ?_
    | refine w_t19 ?_
    | refine w_t20 ?_
    | refine w_t21 ?_
    | refine w_t22 ?_
    | refine w_t23 ?_
    | refine w_t24 ?_
    | refine w_t25 ?_)
  | (refine w_tyD ?_; first
    | (refine w_kvar ?_; (first | refine w_v0 ?_ | refine w_v1 ?_ | refine w_v2 ?_ | refine w_v3 ?_ | refine w_v4 ?_ | refine w_v5 ?_ | refine w_v6 ?_ | refine w_v7 ?_ | refine w_v8 ?_ | refine w_v9 ?_ | refine w_v10 ?_ | refine w_v11 ?_ | refine w_v12 ?_ | refine w_v13 ?_ | refine w_v14 ?_ | refine w_v15 ?_ | refine w_v16 ?_ | refine w_v17 ?_ | refine w_v18 ?_ | refine w_v19 ?_ | refine w_v20 ?_ | refine w_v21 ?_ | refine w_v22 ?_ | refine w_v23 ?_ | refine w_v24 ?_ | refine w_v25 ?_))
    | refine w_c ?_
    | refine w_bin ?_
    | refine w_call ?_
    | refine w_bu ?_
    | refine w_tup ?_
    | refine w_lst ?_
    | refine w_un ?_
    | refine w_mut ?_
    | refine w_ife ?_
    | refine w_notV ?_
    | refine w_andV ?_
    | refine w_orV ?_
    | refine w_callN ?_
    | refine w_callD ?_
    | refine w_callH ?_
    | refine w_sl ?_
    | refine w_exf0 ?_
    | refine w_lc ?_
    | refine w_lcL ?_
    | refine w_locN ?_
    | refine w_buL ?_
    | refine w_fld0 ?_
    | refine w_prop0 ?_
    | refine w_binL ?_
    | refine w_mk ?_
    | refine w_mk0 ?_
    | refine w_methS ?_
    | (refine w_kln ?_; (first | refine w_nP1 ?_ | refine w_nS1 ?_ | refine w_nP2 ?_ | refine w_nS2 ?_ | refine w_nP3 ?_ | refine w_nS3 ?_ | refine w_nP4 ?_ | refine w_nS4 ?_ | refine w_nP5 ?_ | refine w_nS5 ?_ | refine w_nP6 ?_ | refine w_nS6 ?_ | refine w_nP7 ?_ | refine w_nS7 ?_ | refine w_newP0 ?_))
    | (refine w_kok ?_; (first | refine w_c1 ?_ | refine w_b1 ?_ | refine w_b2 ?_ | refine w_B1 ?_ | refine w_drop1 ?_ | refine w_ret1 ?_ | refine w_u1 ?_ | refine w_nx1 ?_ | refine w_part1 ?_ | refine w_propO ?_ | refine w_bl1 ?_ | refine w_bl2 ?_ | refine w_si1 ?_ | refine w_si2 ?_ | refine w_fd1 ?_ | (refine w_kG ?_; (first | refine w_g0 ?_ | refine w_g1 ?_ | refine w_g2 ?_ | refine w_g3 ?_ | refine w_g4 ?_ | refine w_g5 ?_ | refine w_g6 ?_ | refine w_g7 ?_ | refine w_g8 ?_ | refine w_g9 ?_ | refine w_g10 ?_ | refine w_g11 ?_ | refine w_g12 ?_ | refine w_g13 ?_ | refine w_g14 ?_ | refine w_g15 ?_ | refine w_g16 ?_ | refine w_g17 ?_ | refine w_g18 ?_ | refine w_g19 ?_ | refine w_g20 ?_ | refine w_g21 ?_ | refine w_g22 ?_ | refine w_g23 ?_ | refine w_g24 ?_ | refine w_g25 ?_))))
    | (refine w_kof ?_; (first | refine w_max2 (fun _ _ _ _ _ => ?_) | refine w_min2 (fun _ _ _ _ _ => ?_) | refine w_slM (fun _ => ?_) | refine w_slMF (fun _ => ?_) | refine w_add ?_ | refine w_sub ?_ | refine w_neg ?_ | refine w_lt ?_ | refine w_le ?_ | refine w_gt ?_ | refine w_ge ?_ | refine w_eqI ?_ | refine w_neI ?_ | refine w_abs ?_ | refine w_int ?_ | refine w_lenL ?_ | refine w_lenF ?_ | refine w_lenT ?_ | refine w_lenL0 ?_ | refine w_lenT0 ?_ | refine w_tplL ?_ | refine w_tplF ?_ | refine w_tplT ?_ | refine w_lstL ?_ | refine w_lstT ?_ | refine w_lstF ?_ | refine w_ixT0 ?_ | refine w_ixT1 ?_ | refine w_ixT2 ?_ | refine w_ixL0 ?_ | refine w_ixL1 ?_ | refine w_ixL2 ?_ | refine w_ixL3 ?_ | refine w_i2 ?_ | refine w_isN_non ?_ | refine w_noN_non ?_ | refine w_isN_tup ?_ | refine w_noN_tup ?_ | refine w_isN_lst ?_ | refine w_noN_lst ?_ | refine w_isN_int ?_ | refine w_noN_int ?_ | refine w_isN_loc ?_ | refine w_noN_loc ?_ | refine w_isN_bl ?_ | refine w_noN_bl ?_ | refine w_isN_str ?_ | refine w_noN_str ?_))
    | (refine w_kx ?_; (first | refine w_dropx ?_ | refine w_retx ?_ | refine w_asgx ?_ | refine w_xCk ?_ | refine w_xB1 ?_ | refine w_xB2 ?_ | refine w_xU1 ?_ | refine w_xBt ?_))
    | refine w_bind ?_
    | refine w_nx ?_)
  | (refine w_tyL ?_; first
    | refine w_cons ?_
    | refine w_nil ?_
    | (refine w_kok ?_; (first | refine w_c2 ?_ | refine w_call1 ?_ | refine w_bu1 ?_ | refine w_tup1 ?_ | refine w_lst1 ?_ | refine w_callH1 ?_ | refine w_m2 ?_ | refine w_raise2 ?_ | refine w_llk ?_ | refine w_bl ?_ | refine w_ms2 ?_))
    | (refine w_kx ?_; (first | refine w_xCk2 ?_ | refine w_xFk ?_ | refine w_xBu ?_ | refine w_xTk ?_ | refine w_xLk ?_ | refine w_xM2 ?_ | refine w_xLLk ?_ | refine w_xBLk ?_))
    | refine w_bind ?_)
  | (refine w_tyB ?_; first
    | refine w_B ?_
    | refine w_and ?_
    | refine w_or ?_
    | refine w_not ?_
    | refine w_lcy ?_
    | (refine w_kok ?_; (first | refine w_not_t ?_ | refine w_not_f ?_ | refine w_not1 ?_ | refine w_V1 ?_ | refine w_if_t ?_ | refine w_if_f ?_ | refine w_and_t ?_ | refine w_and_f ?_ | refine w_or_t ?_ | refine w_or_f ?_ | refine w_ife_t ?_ | refine w_ife_f ?_ | refine w_andV_t ?_ | refine w_andV_f ?_ | refine w_orV_t ?_ | refine w_orV_f ?_ | refine w_lct_t ?_ | refine w_lct_f ?_ | refine w_nx1 ?_))
    | (refine w_kx ?_; (first | refine w_xNk ?_ | refine w_xAk ?_ | refine w_xOk ?_ | refine w_xEk ?_ | refine w_xVk ?_ | refine w_xAVk ?_ | refine w_xOVk ?_ | refine w_xIk ?_))
    | refine w_bind ?_
    | refine w_nx ?_)
  | (refine w_tySrc ?_; first
    | refine w_iseq ?_
    | refine w_irng ?_
    | refine w_srcL ?_
    | refine w_srcT ?_
    | refine w_srcF ?_)
  | (refine w_tyO ?_; first
    | refine w_part ?_
    | refine w_nop ?_)))
local macro_rules | `(tactic| walk_at "w2") => `(tactic| first
  | ((with_reducible refine w_tyB ?_); (first
    | ((with_reducible refine w_kIk ?_); (first | ((with_reducible refine w_if_d ?q1 ?q2); (case q2 => intro; exfalso; omega); (case q1 => intro)) | ((with_reducible refine w_if_d ?q1 ?q2); (case q1 => intro; exfalso; omega); (case q2 => intro)) | (with_reducible refine w_if_d (fun _ => ?_) (fun _ => ?_)) | ((with_reducible refine w_if_n ?q1 ?q2); (case q2 => intro; exfalso; omega); (case q1 => intro)) | ((with_reducible refine w_if_n ?q1 ?q2); (case q1 => intro; exfalso; omega); (case q2 => intro)) | (with_reducible refine w_if_n (fun _ => ?_) (fun _ => ?_)) | (with_reducible refine w_if_b (fun _ => ?_) (fun _ => ?_))))
    | ((with_reducible refine w_kAk ?_); (first | ((with_reducible refine w_and_d ?q1 ?q2); (case q2 => intro; exfalso; omega); (case q1 => intro)) | ((with_reducible refine w_and_d ?q1 ?q2); (case q1 => intro; exfalso; omega); (case q2 => intro)) | (with_reducible refine w_and_d (fun _ => ?_) (fun _ => ?_)) | ((with_reducible refine w_and_n ?q1 ?q2); (case q2 => intro; exfalso; omega); (case q1 => intro)) | ((with_reducible refine w_and_n ?q1 ?q2); (case q1 => intro; exfalso; omega); (case q2 => intro)) | (with_reducible refine w_and_n (fun _ => ?_) (fun _ => ?_)) | (with_reducible refine w_and_b (fun _ => ?_) (fun _ => ?_))))
    | ((with_reducible refine w_kOk ?_); (first | ((with_reducible refine w_or_d ?q1 ?q2); (case q2 => intro; exfalso; omega); (case q1 => intro)) | ((with_reducible refine w_or_d ?q1 ?q2); (case q1 => intro; exfalso; omega); (case q2 => intro)) | (with_reducible refine w_or_d (fun _ => ?_) (fun _ => ?_)) | ((with_reducible refine w_or_n ?q1 ?q2); (case q2 => intro; exfalso; omega); (case q1 => intro)) | ((with_reducible refine w_or_n ?q1 ?q2); (case q1 => intro; exfalso; omega); (case q2 => intro)) | (with_reducible refine w_or_n (fun _ => ?_) (fun _ => ?_)) | (with_reducible refine w_or_b (fun _ => ?_) (fun _ => ?_))))
    | ((with_reducible refine w_kEk ?_); (first | ((with_reducible refine w_ife_d ?q1 ?q2); (case q2 => intro; exfalso; omega); (case q1 => intro)) | ((with_reducible refine w_ife_d ?q1 ?q2); (case q1 => intro; exfalso; omega); (case q2 => intro)) | (with_reducible refine w_ife_d (fun _ => ?_) (fun _ => ?_)) | ((with_reducible refine w_ife_n ?q1 ?q2); (case q2 => intro; exfalso; omega); (case q1 => intro)) | ((with_reducible refine w_ife_n ?q1 ?q2); (case q1 => intro; exfalso; omega); (case q2 => intro)) | (with_reducible refine w_ife_n (fun _ => ?_) (fun _ => ?_)) | (with_reducible refine w_ife_b (fun _ => ?_) (fun _ => ?_))))
    | ((with_reducible refine w_kAVk ?_); (first | ((with_reducible refine w_andV_d ?q1 ?q2); (case q2 => intro; exfalso; omega); (case q1 => intro)) | ((with_reducible refine w_andV_d ?q1 ?q2); (case q1 => intro; exfalso; omega); (case q2 => intro)) | (with_reducible refine w_andV_d (fun _ => ?_) (fun _ => ?_)) | ((with_reducible refine w_andV_n ?q1 ?q2); (case q2 => intro; exfalso; omega); (case q1 => intro)) | ((with_reducible refine w_andV_n ?q1 ?q2); (case q1 => intro; exfalso; omega); (case q2 => intro)) | (with_reducible refine w_andV_n (fun _ => ?_) (fun _ => ?_)) | (with_reducible refine w_andV_b (fun _ => ?_) (fun _ => ?_))))
    | ((with_reducible refine w_kOVk ?_); (first | ((with_reducible refine w_orV_d ?q1 ?q2); (case q2 => intro; exfalso; omega); (case q1 => intro)) | ((with_reducible refine w_orV_d ?q1 ?q2); (case q1 => intro; exfalso; omega); (case q2 => intro)) | (with_reducible refine w_orV_d (fun _ => ?_) (fun _ => ?_)) | ((with_reducible refine w_orV_n ?q1 ?q2); (case q2 => intro; exfalso; omega); (case q1 => intro)) | ((with_reducible refine w_orV_n ?q1 ?q2); (case q1 => intro; exfalso; omega); (case q2 => intro)) | (with_reducible refine w_orV_n (fun _ => ?_) (fun _ => ?_)) | (with_reducible refine w_orV_b (fun _ => ?_) (fun _ => ?_))))
    | ((with_reducible refine w_lct_d ?q1 ?q2); (case q2 => intro; exfalso; omega); (case q1 => intro))
    | ((with_reducible refine w_lct_d ?q1 ?q2); (case q1 => intro; exfalso; omega); (case q2 => intro))
    | (with_reducible refine w_lct_d (fun _ => ?_) (fun _ => ?_))
    | ((with_reducible refine w_lct_n ?q1 ?q2); (case q2 => intro; exfalso; omega); (case q1 => intro))
    | ((with_reducible refine w_lct_n ?q1 ?q2); (case q1 => intro; exfalso; omega); (case q2 => intro))
    | (with_reducible refine w_lct_n (fun _ => ?_) (fun _ => ?_))
    | (with_reducible refine w_lct_b (fun _ => ?_) (fun _ => ?_))
    | with_reducible refine w_ok ?_
    | with_reducible refine w_ex ?_))
  | ((with_reducible refine w_tyD ?_); (first
    | ((with_reducible refine w_kof ?_); (first | ((with_reducible refine w_rep1 ?h0 ?h1 ?q); (case h0 => walk_at "side"); (case h1 => walk_at "side")) | ((with_reducible refine w_mod ?h0 ?q); (case h0 => walk_at "side")) | ((with_reducible refine w_div ?h0 ?h1 ?q); (case h0 => walk_at "side"); (case h1 => walk_at "side")) | ((with_reducible refine w_mul1 ?h0 ?h1 ?q); (case h0 => walk_at "side"); (case h1 => walk_at "side")) | ((with_reducible refine w_mul2 ?h0 ?h1 ?q); (case h0 => walk_at "side"); (case h1 => walk_at "side")) | ((with_reducible refine w_ixLn ?h0 (fun _ _ _ _ => ?q)); (case h0 => walk_at "side")) | ((with_reducible refine w_ixTn ?h0 (fun _ _ _ _ => ?q)); (case h0 => walk_at "side")) | ((with_reducible refine w_ixLz ?h0 ?h1 (fun _ _ _ _ => ?q)); (case h0 => walk_at "side"); (case h1 => walk_at "side")) | ((with_reducible refine w_ixTz ?h0 ?h1 (fun _ _ _ _ => ?q)); (case h0 => walk_at "side"); (case h1 => walk_at "side")) | ((with_reducible refine w_fldO (d := ?d) ?h0 ?h1 ?q); (case h0 => walk_at "mem"); (case h1 => exact rfl)) | ((with_reducible refine w_cat1 (x := ?x) ?h0 ?h1 ?q); (case h0 => exact rfl); (case h1 => walk_at "len")) | ((with_reducible refine w_catM ?h1 ?q); (case h1 => walk_at "len")) | ((with_reducible refine w_cat ?h1 ?q); (case h1 => walk_at "len")) | ((with_reducible refine w_addCL (xs := ?as) ?h0 ?h1 ?q); (case h0 => walk_at "get"); (case h1 => walk_at "len")) | ((with_reducible refine w_addLC (ys := ?as) ?h0 ?h1 ?q); (case h0 => walk_at "get"); (case h1 => walk_at "len")) | ((with_reducible refine w_ixC (i := 0) (k := 0) (xs := ?as) (d := ?d) ?h0 ?h2 ?h1 ?q); (case h2 => exact rfl); (case h0 => walk_at "get"); (case h1 => exact rfl)) | ((with_reducible refine w_ixC (i := 1) (k := 1) (xs := ?as) (d := ?d) ?h0 ?h2 ?h1 ?q); (case h2 => exact rfl); (case h0 => walk_at "get"); (case h1 => exact rfl)) | ((with_reducible refine w_ixC (i := 2) (k := 2) (xs := ?as) (d := ?d) ?h0 ?h2 ?h1 ?q); (case h2 => exact rfl); (case h0 => walk_at "get"); (case h1 => exact rfl)) | ((with_reducible refine w_ixC (i := 3) (k := 3) (xs := ?as) (d := ?d) ?h0 ?h2 ?h1 ?q); (case h2 => exact rfl); (case h0 => walk_at "get"); (case h1 => exact rfl)) | ((with_reducible refine w_ixC (i := 4) (k := 4) (xs := ?as) (d := ?d) ?h0 ?h2 ?h1 ?q); (case h2 => exact rfl); (case h0 => walk_at "get"); (case h1 => exact rfl)) | ((with_reducible refine w_ixC (i := 5) (k := 5) (xs := ?as) (d := ?d) ?h0 ?h2 ?h1 ?q); (case h2 => exact rfl); (case h0 => walk_at "get"); (case h1 => exact rfl)) | ((with_reducible refine w_ixCm (α := ?al) (enc := ?en) (l := ?l) ?h2 ?h0 ?h1 (fun _ _ _ => ?q)); (case h2 => walk_at "get"); (case h0 => walk_at "side"); (case h1 => walk_at "side")) | ((with_reducible refine w_isiL (xs := ?as) (b := true) ?h0 ?h1 ?q); (case h0 => walk_at "get"); (case h1 => exact rfl)) | ((with_reducible refine w_isiL (xs := ?as) (b := false) ?h0 ?h1 ?q); (case h0 => walk_at "get"); (case h1 => exact rfl)) | ((with_reducible refine w_isi0 (b := true) ?h1 ?q); (case h1 => exact rfl)) | ((with_reducible refine w_isi0 (b := false) ?h1 ?q); (case h1 => exact rfl)) | ((with_reducible refine w_lenC (as := ?as) ?h0 ?q); (case h0 => walk_at "get"))))
    | ((with_reducible refine w_exf (d := ?d) ?h0 ?h1 ?q); (case h0 => walk_at "mem"); (case h1 => exact rfl))
    | ((with_reducible refine w_asg1 (t := gTupF _ _) (env' := ?e) ?h0 ?q); (case h0 => walk_at "tgt"))
    | ((with_reducible refine w_m1 (as := ?as) ?h0 ?q); (case h0 => walk_at "get"))
    | ((with_reducible refine w_appendM (α := ?al) (enc := ?en) (l := ?l) (x := ?x) (S' := ?s) ?h0 ?h3 ?h1 ?h2 ?q); (case h0 => walk_at "get"); (case h3 => exact rfl); (case h1 => walk_at "len"); (case h2 => walk_at "put"))
    | ((with_reducible refine w_append (as := ?as) (S' := ?s) ?h0 ?h1 ?h2 ?q); (case h0 => walk_at "get"); (case h1 => walk_at "len"); (case h2 => walk_at "put"))
    | ((with_reducible refine w_fd2 (C := ?C) (gs := ?gs) (S' := ?s) ?h0 ?h1 ?h2 ?h3 ?q); (case h0 => walk_at "get"); (case h1 => walk_at "mem"); (case h2 => ((repeat (with_reducible refine putD_lt ?_)); decide)); (case h3 => walk_at "put"))
    | ((with_reducible refine w_ms1 (ds := ?ds) ?h0 ?q); (case h0 => walk_at "seq"))
    | ((with_reducible refine w_cnt1 (l := ?l) ?h0 ?q); (case h0 => walk_at "seq"))
    | ((with_reducible refine w_inI (l := ?l) ?h0 ?q); (case h0 => walk_at "seq"))
    | ((with_reducible refine w_niI (l := ?l) ?h0 ?q); (case h0 => walk_at "seq"))
    | ((with_reducible refine w_siM (α := ?al) (enc := ?en) (l := ?l) (x := ?x) (S' := ?s) ?h0 ?h3 ?h4 ?h5 ?h2 ?q); (case h0 => walk_at "get"); (case h3 => exact rfl); (case h4 => walk_at "side"); (case h5 => walk_at "side"); (case h2 => walk_at "put"))
    | ((with_reducible refine w_si3 (k := ?k) (xs := ?as) (S' := ?s) ?h0 ?h3 ?h1 ?h2 ?q); (case h0 => walk_at "get"); (case h3 => exact rfl); (case h1 => walk_at "len"); (case h2 => walk_at "put"))
    | with_reducible refine w_ok ?_
    | with_reducible refine w_ex ?_))
  | ((with_reducible refine w_tyL ?_); (first
    | ((with_reducible refine w_catC (xs := ?as) ?h0 ?h1 ?q); (case h0 => walk_at "get"); (case h1 => walk_at "len"))
    | ((with_reducible refine w_catL ?h1 ?q); (case h1 => walk_at "len"))
    | ((with_reducible refine w_buL1 (es := ?es) ?h0 ?q); (case h0 => exact rfl))
    | with_reducible refine w_ok ?_
    | with_reducible refine w_ex ?_))
  | ((with_reducible refine w_tyS ?_); (first
    | ((with_reducible refine w_suite ?h0 ?q); (case h0 => rfl))
    | ((with_reducible refine w_body (t := gTupF _ _) (env' := ?e) ?h0 ?q); (case h0 => walk_at "tgt"))))
  | ((with_reducible refine w_tySrc ?_); (first
    | ((with_reducible refine w_rng1 ?h0 ?h1 ?q); (case h0 => walk_at "side"); (case h1 => walk_at "side"))
    | ((with_reducible refine w_rng2 ?h0 ?h1 ?h2 ?h3 ?q); (case h0 => walk_at "side"); (case h1 => walk_at "side"); (case h2 => walk_at "side"); (case h3 => walk_at "side"))))
  | ((with_reducible refine w_tyOD ?_); (first
    | ((with_reducible refine w_lcb (env' := ?e) ?h0 ?q); (case h0 => walk_at "tgt"))))
  | ((with_reducible refine w_tyO ?_); (first
    | with_reducible refine w_ok ?_
    | with_reducible refine w_ex ?_))
  | (set_option simprocs false in simp only [List.cons_append, List.nil_append]))
local macro_rules | `(tactic| walk_at "call") => `(tactic| fail)
local macro_rules | `(tactic| walk_at "ws") => `(tactic| (repeat' (first | walk_at "w1" | walk_at "w2" | walk_at "call" | fail)))
local macro_rules | `(tactic| walk_at "w2") => `(tactic| ((with_reducible refine w_tyB ?_); (first
    | ((with_reducible refine w_kIk ?_); (first | ((with_reducible refine w_if_d (fun _ => ?q1) (fun _ => ?q2)); (case q2 => (exfalso; omega))) | ((with_reducible refine w_if_d (fun _ => ?q1) (fun _ => ?q2)); (case q1 => (exfalso; omega))) | ((with_reducible refine w_if_n (fun _ => ?q1) (fun _ => ?q2)); (case q2 => (exfalso; omega))) | ((with_reducible refine w_if_n (fun _ => ?q1) (fun _ => ?q2)); (case q1 => (exfalso; omega)))))
    | ((with_reducible refine w_kAk ?_); (first | ((with_reducible refine w_and_d (fun _ => ?q1) (fun _ => ?q2)); (case q2 => (exfalso; omega))) | ((with_reducible refine w_and_d (fun _ => ?q1) (fun _ => ?q2)); (case q1 => (exfalso; omega))) | ((with_reducible refine w_and_n (fun _ => ?q1) (fun _ => ?q2)); (case q2 => (exfalso; omega))) | ((with_reducible refine w_and_n (fun _ => ?q1) (fun _ => ?q2)); (case q1 => (exfalso; omega)))))
    | ((with_reducible refine w_kOk ?_); (first | ((with_reducible refine w_or_d (fun _ => ?q1) (fun _ => ?q2)); (case q2 => (exfalso; omega))) | ((with_reducible refine w_or_d (fun _ => ?q1) (fun _ => ?q2)); (case q1 => (exfalso; omega))) | ((with_reducible refine w_or_n (fun _ => ?q1) (fun _ => ?q2)); (case q2 => (exfalso; omega))) | ((with_reducible refine w_or_n (fun _ => ?q1) (fun _ => ?q2)); (case q1 => (exfalso; omega)))))
    | ((with_reducible refine w_kEk ?_); (first | ((with_reducible refine w_ife_d (fun _ => ?q1) (fun _ => ?q2)); (case q2 => (exfalso; omega))) | ((with_reducible refine w_ife_d (fun _ => ?q1) (fun _ => ?q2)); (case q1 => (exfalso; omega))) | ((with_reducible refine w_ife_n (fun _ => ?q1) (fun _ => ?q2)); (case q2 => (exfalso; omega))) | ((with_reducible refine w_ife_n (fun _ => ?q1) (fun _ => ?q2)); (case q1 => (exfalso; omega)))))
    | ((with_reducible refine w_kAVk ?_); (first | ((with_reducible refine w_andV_d (fun _ => ?q1) (fun _ => ?q2)); (case q2 => (exfalso; omega))) | ((with_reducible refine w_andV_d (fun _ => ?q1) (fun _ => ?q2)); (case q1 => (exfalso; omega))) | ((with_reducible refine w_andV_n (fun _ => ?q1) (fun _ => ?q2)); (case q2 => (exfalso; omega))) | ((with_reducible refine w_andV_n (fun _ => ?q1) (fun _ => ?q2)); (case q1 => (exfalso; omega)))))
    | ((with_reducible refine w_kOVk ?_); (first | ((with_reducible refine w_orV_d (fun _ => ?q1) (fun _ => ?q2)); (case q2 => (exfalso; omega))) | ((with_reducible refine w_orV_d (fun _ => ?q1) (fun _ => ?q2)); (case q1 => (exfalso; omega))) | ((with_reducible refine w_orV_n (fun _ => ?q1) (fun _ => ?q2)); (case q2 => (exfalso; omega))) | ((with_reducible refine w_orV_n (fun _ => ?q1) (fun _ => ?q2)); (case q1 => (exfalso; omega)))))
    | ((with_reducible refine w_lct_d (fun _ => ?q1) (fun _ => ?q2)); (case q2 => (exfalso; omega))) | ((with_reducible refine w_lct_d (fun _ => ?q1) (fun _ => ?q2)); (case q1 => (exfalso; omega)))
    | ((with_reducible refine w_lct_n (fun _ => ?q1) (fun _ => ?q2)); (case q2 => (exfalso; omega))) | ((with_reducible refine w_lct_n (fun _ => ?q1) (fun _ => ?q2)); (case q1 => (exfalso; omega))))))
section
/-! ### draws -/
variable {K : R FL.D → Prop} {xs : List Int} {T S : Sto} {o1 o2 : Option FL.D}
theorem gEq_poolN (T : Sto) : ∀ xs : List Int, gEq false (pool xs T) (.loc 0) (.lst []) = some (.bl (decide (xs = []))) := fun xs => by
  rw [gEq_pool]
  cases xs <;> rfl
theorem w_pop {l : List Int} {x : Int} (q : W (R.ok (.int x) (pool l T)) K) : W (fMut0 gPop (fVar 0) [some (.loc 0), o1, o2] (pool (l ++ [x]) T)) K := by
  have e : fMut0 gPop (fVar 0) [some (.loc 0), o1, o2] (pool (l ++ [x]) T) = .ok (.int x) (pool l T) := by
    show mutAt gPop (.loc 0) [] (pool (l ++ [x]) T) = _
    have hp : gPop (iD (l ++ [x])) [] = some (.int x, iD l) := by
      have h1 : (iD (l ++ [x]))[(iD (l ++ [x])).length - 1]? = some (.int x) := by
        rw [List.length_map, List.length_append, List.getElem?_map]
        show (l ++ [x])[l.length + 1 - 1]?.map _ = _
        rw [Nat.add_sub_cancel, List.getElem?_append_right (Nat.le_refl _), Nat.sub_self]
        rfl
      have h2 : (iD (l ++ [x])).dropLast = iD l := by
        show ((l ++ [x]).map FL.D.int).dropLast = _
        rw [List.map_append]
        exact List.dropLast_concat
      unfold gPop
      rw [h1, h2]
    unfold mutAt
    show (match gPop (iD (l ++ [x])) [] with
      | some (z, ys) => R.ok z ((pool (l ++ [x]) T).set 0 (.lst ys))
      | none => .bad) = _
    rw [hp]
    rfl
  rw [e]
  exact q
theorem r_draw {k : Int} (hl : xs.length ≤ 63) (h0 : 0 < k) (h1 : k < 1073741824) (q : ∀ v ys, 0 ≤ v → v < k → ys.length ≤ 63 → W (.ok (.int v) (pool ys T)) K) : W (f_l_draw [.loc 0, .int k] (pool xs T)) K := by
  have q' := q
  show W (g_l_draw [some (.loc 0), some (.int k), none] (pool xs T)) (Of K)
  unfold g_l_draw
  rcases List.eq_nil_or_concat xs with rfl | ⟨l, x, rfl⟩
  · walk_at "ws"
    refine w_of (d := .bl true) (gEq_poolN T _) ?_
    walk_at "ws"
    exact q _ _ (by omega) (by omega) hl
  · rw [List.concat_eq_append] at hl ⊢
    rw [List.length_append] at hl
    have hl : l.length + 1 ≤ 63 := hl
    walk_at "ws"
    refine w_of (d := .bl false) ?_ ?_
    · rw [gEq_poolN]
      rw [decide_eq_false (by simp)]
    walk_at "ws"
    refine w_pop ?_
    walk_at "ws"
    · show W (R.ok _ (pool (l ++ [x / k]) T)) K
      exact q _ _ (Int.emod_nonneg _ (by omega)) (Int.emod_lt_of_pos _ h0) (by rw [List.length_append]; exact hl)
    · exact q _ _ (Int.emod_nonneg _ (by omega)) (Int.emod_lt_of_pos _ h0) (by omega)
local macro_rules | `(tactic| walk_at "call") => `(tactic| ((with_reducible refine r_draw ?h0 ?h1 ?h2 (fun _ _ _ _ _ => ?q)); (case h0 => walk_at "side"); (case h1 => walk_at "side"); (case h2 => walk_at "side")))
theorem r_measure (hl : xs.length ≤ 63) (q : ∀ v ys, 1 ≤ v → v ≤ 100 → ys.length ≤ 63 → W (.ok (.int v) (pool ys T)) K) : W (f_l_measure [.loc 0] (pool xs T)) K := by
  show W (g_l_measure [some (.loc 0), none] (pool xs T)) (Of K)
  unfold g_l_measure
  walk_at "ws"
  all_goals exact q _ _ (by omega) (by omega) (by assumption)
theorem r_cost {mode w cm k : Int} (hl : xs.length ≤ 63) (hw : 0 ≤ w ∧ w ≤ 9900) (hc : 0 ≤ cm) (q : ∀ v ys, 0 ≤ v → v ≤ 9999 → ys.length ≤ 63 → W (.ok (.int v) (pool ys T)) K) : W (f_l_cost [.loc 0, .int mode, .int w, .int cm, .int k] (pool xs T)) K := by
  show W (g_l_cost [some (.loc 0), some (.int mode), some (.int w), some (.int cm), some (.int k), none] (pool xs T)) (Of K)
  unfold g_l_cost
  walk_at "ws"
  all_goals exact q _ _ (by omega) (by omega) (by assumption)
end
section
abbrev wordD (x : String) : FL.D := .str (PySem.Str.ofString x)
/-! ### looks -/
abbrev Look := String × Int × Int × Int
abbrev lookD (k : Look) : FL.D := .tup [wordD k.1, .int k.2.1, .int k.2.2.1, .int k.2.2.2]
def badB (k : Look) : Bool := decide (k.2.1 < k.2.2.1) || decide (k.2.2.2 < k.2.1)
def firstV : List Look → Option (String × Int)
  | [] => none
  | k :: r => if badB k = true then some (k.1, k.2.1) else firstV r
def firstD : Option (String × Int) → FL.D
  | none => .non
  | some r => .tup [wordD "OutOfRange", wordD r.1, .int r.2]
theorem firstV_append : ∀ (a b : List Look), firstV (a ++ b) = match firstV a with
    | some r => some r
    | none => firstV b
  | [], b => rfl
  | k :: a, b => by
    show (if badB k = true then some (k.1, k.2.1) else firstV (a ++ b)) = match (if badB k = true then some (k.1, k.2.1) else firstV a) with
      | some r => some r
      | none => firstV b
    rw [firstV_append a b]
    by_cases h : badB k = true
    · rw [if_pos h, if_pos h]
    · rw [if_neg h, if_neg h]
abbrev bFirst : SF := (sIf (fOr (fB (fBin gLt (fVar 2) (fVar 3))) (fB (fBin gGt (fVar 2) (fVar 4)))) (sRet (fTup (fCons (fC (.str "OutOfRange")) (fCons (fVar 1) (fCons (fVar 2) fNil))))) sNext)
abbrev gFirst : TGf := gTupF 4 (gsCons (gN 1) (gsCons (gN 2) (gsCons (gN 3) (gsCons (gN 4) gsNil))))
/-! ### plain data -/
theorem pl_iD (n : Nat) : ∀ xs : List Int, plains n (iD xs) = true
  | [] => by unfold plains; rfl
  | x :: r => by
    show plains n (FL.D.int x :: iD r) = true
    unfold plains
    rw [pl_iD n r]
    unfold FL.D.plain
    rfl
theorem pl_int {n : Nat} {i : Int} : (FL.D.int i).plain n = true := by unfold FL.D.plain; rfl
/-! ### the program's looks -/
variable {c : String → PySem.Addr}
abbrev excF (r : String × Int) : List (PySem.Str × FL.D) := [(PySem.Str.ofString "value", .int r.2), (PySem.Str.ofString "what", wordD r.1)]
abbrev excR (c : String → PySem.Addr) (r : String × Int) (S : Sto) : R FL.D := .exc (c "OutOfRange") (excF r) S
theorem e_within {S : Sto} {k : Look} : f_within c [wordD k.1, .int k.2.1, .int k.2.2.1, .int k.2.2.2] S = if badB k = true then excR c (k.1, k.2.1) S else .ok .non S := by
  rw [show f_within c [wordD k.1, .int k.2.1, .int k.2.2.1, .int k.2.2.2] S = (g_within c [some (wordD k.1), some (.int k.2.1), some (.int k.2.2.1), some (.int k.2.2.2)] S).out from rfl]
  unfold g_within
  have hc : (fOr (fB (fBin gLt (fVar 1) (fVar 2))) (fB (fBin gGt (fVar 1) (fVar 3)))) [some (wordD k.1), some (.int k.2.1), some (.int k.2.2.1), some (.int k.2.2.2)] S = .ok (badB k) S := by
    unfold badB
    by_cases h : k.2.1 < k.2.2.1
    · simp only [sSeq, sNext, sDrop, sRet, sRetN, sIf, sAsg, gN, fVar, fC, fBin, fUn, fBu, fNil, fCons, fTup, fLst, fB, fIf, fNot, fAnd, fOr, fV, fNotV, fAndV, fOrV, fCall, R.bind, R.bindS, R.of, RS.out, gAdd_int, gSub_int, gLt_int, gLe_int, gGt_int, gGe_int, gNeg_int, gEq_int, gNe_int, gI2C_int, gInt_int, gAbs_int, gLen_lst, gLen_tup, List.getElem?_cons_zero, List.getElem?_cons_succ, List.set_cons_zero, List.set_cons_succ, List.append_nil, if_true, if_false, decide_true, decide_false, Int.reduceEq, Int.reduceLT, Int.reduceLE, Int.reduceNeg, Int.reduceAdd, Int.reduceSub, Bool.not_true, Bool.not_false, reduceIte, Bool.false_eq_true, Option.map_some, Option.bind_some, Nat.reduceAdd, gTupF, gsCons, gsNil, seqOf, lisOf, lstOf, List.length_cons, List.length_nil, decide_eq_true h, Bool.true_or]
    · simp only [sSeq, sNext, sDrop, sRet, sRetN, sIf, sAsg, gN, fVar, fC, fBin, fUn, fBu, fNil, fCons, fTup, fLst, fB, fIf, fNot, fAnd, fOr, fV, fNotV, fAndV, fOrV, fCall, R.bind, R.bindS, R.of, RS.out, gAdd_int, gSub_int, gLt_int, gLe_int, gGt_int, gGe_int, gNeg_int, gEq_int, gNe_int, gI2C_int, gInt_int, gAbs_int, gLen_lst, gLen_tup, List.getElem?_cons_zero, List.getElem?_cons_succ, List.set_cons_zero, List.set_cons_succ, List.append_nil, if_true, if_false, decide_true, decide_false, Int.reduceEq, Int.reduceLT, Int.reduceLE, Int.reduceNeg, Int.reduceAdd, Int.reduceSub, Bool.not_true, Bool.not_false, reduceIte, Bool.false_eq_true, Option.map_some, Option.bind_some, Nat.reduceAdd, gTupF, gsCons, gsNil, seqOf, lisOf, lstOf, List.length_cons, List.length_nil, decide_eq_false h, Bool.false_or]
  cases hb : badB k with
  | true =>
    rw [hb] at hc
    rw [sIf_t hc, if_pos rfl]
    rfl
  | false =>
    rw [hb] at hc
    rw [sIf_f hc, if_neg Bool.false_ne_true]
    rfl
/-! ### comparing what was told -/
theorem same_int {S : Sto} {k : Nat} {i : Int} : f_l_same (k + 1) [.int i, .int i] S = .ok (.bl true) S := by
  rw [show f_l_same (k + 1) [.int i, .int i] S = (g_l_same (f_l_same k) [some (.int i), some (.int i), none] S).out from rfl]
  unfold g_l_same
  have t1 : gIsi [] S [.int i, .ty "tuple"] = some (.bl false) := by rfl
  have t2 : gIsi [] S [.int i, .ty "str"] = some (.bl false) := by rfl
  have t3 : gIsi [] S [.int i, .ty "bool"] = some (.bl false) := by rfl
  have t4 : gIsi [] S [.int i, .ty "int"] = some (.bl true) := by rfl
  have t5 : gIsN false S (.int i) .non = some (.bl false) := by rfl
  simp only [sSeq, sNext, sDrop, sRet, sRetN, sIf, sAsg, gN, fVar, fC, fBin, fUn, fBu, fNil, fCons, fTup, fLst, fB, fIf, fNot, fAnd, fOr, fV, fNotV, fAndV, fOrV, fCall, R.bind, R.bindS, R.of, RS.out, gAdd_int, gSub_int, gLt_int, gLe_int, gGt_int, gGe_int, gNeg_int, gEq_int, gNe_int, gI2C_int, gInt_int, gAbs_int, gLen_lst, gLen_tup, List.getElem?_cons_zero, List.getElem?_cons_succ, List.set_cons_zero, List.set_cons_succ, List.append_nil, if_true, if_false, decide_true, decide_false, Int.reduceEq, Int.reduceLT, Int.reduceLE, Int.reduceNeg, Int.reduceAdd, Int.reduceSub, Bool.not_true, Bool.not_false, reduceIte, Bool.false_eq_true, Option.map_some, Option.bind_some, Nat.reduceAdd, gTupF, gsCons, gsNil, seqOf, lisOf, lstOf, List.length_cons, List.length_nil, t1, t2, t3, t4, t5]
abbrev iSame : Fi := iRng gRng1 (fCons (fBu gLen (fCons (fVar 1) fNil)) fNil)
abbrev bSame (k : Nat) : SF := sIf (fNot (fB (fCall (f_l_same k) [] (fCons (fBin gIx (fVar 0) (fVar 2)) (fCons (fBin gIx (fVar 1) (fVar 2)) fNil))))) (sRet (fC (.bl false))) sNext
theorem same_rng {S : Sto} {ds : List FL.D} (hl : ds.length ≤ 1000) : iSame [some (.tup ds), some (.tup ds), none] S = .ok (.fix (rngD 0 ds.length)) S := by
  have e := gRng1_j (small_nat hl)
  rw [Int.toNat_natCast] at e
  exact iRng_of (ds := [.int (ds.length : Int)]) (by simp only [sSeq, sNext, sDrop, sRet, sRetN, sIf, sAsg, gN, fVar, fC, fBin, fUn, fBu, fNil, fCons, fTup, fLst, fB, fIf, fNot, fAnd, fOr, fV, fNotV, fAndV, fOrV, fCall, R.bind, R.bindS, R.of, RS.out, gAdd_int, gSub_int, gLt_int, gLe_int, gGt_int, gGe_int, gNeg_int, gEq_int, gNe_int, gI2C_int, gInt_int, gAbs_int, gLen_lst, gLen_tup, List.getElem?_cons_zero, List.getElem?_cons_succ, List.set_cons_zero, List.set_cons_succ, List.append_nil, if_true, if_false, decide_true, decide_false, Int.reduceEq, Int.reduceLT, Int.reduceLE, Int.reduceNeg, Int.reduceAdd, Int.reduceSub, Bool.not_true, Bool.not_false, reduceIte, Bool.false_eq_true, Option.map_some, Option.bind_some, Nat.reduceAdd, gTupF, gsCons, gsNil, seqOf, lisOf, lstOf, List.length_cons, List.length_nil]) e
theorem is_tup {S : Sto} {ds : List FL.D} : gIsi [] S [.tup ds, .ty "tuple"] = some (.bl true) := by rfl
theorem same_loop {S : Sto} {k : Nat} {ds : List FL.D} (h : ∀ d ∈ ds, f_l_same k [d, d] S = .ok (.bl true) S) : ∃ o, forL (fun d env S => match gN 2 d env S with
      | some env' => bSame k env' S
      | none => .bad) (rngD 0 ds.length) [some (.tup ds), some (.tup ds), none] S = .fl (.nx [some (.tup ds), some (.tup ds), o]) S := by
  obtain ⟨env', S', q, ⟨o, rfl⟩, rfl, _⟩ := forL_run (body := fun d env S => match gN 2 d env S with
      | some env' => bSame k env' S
      | none => .bad) (fun r env S' => (∃ o, env = [some (.tup ds), some (.tup ds), o]) ∧ S' = S ∧ ∀ d ∈ r, ∃ j : Nat, j < ds.length ∧ d = .int j) (fun d r env S' ⟨⟨o, e1⟩, e2, hd⟩ => by
        subst e1 e2
        obtain ⟨j, hj, rfl⟩ := hd d List.mem_cons_self
        refine ⟨[some (.tup ds), some (.tup ds), some (.int j)], S', ?_, ⟨_, rfl⟩, rfl, fun d hd' => hd d (List.mem_cons_of_mem _ hd')⟩
        have ix : gIx S' (.tup ds) (.int (j : Int)) = some ds[j] := gIx_tup (List.getElem?_eq_getElem hj)
        have hj' := h ds[j] (List.getElem_mem hj)
        unfold bSame
        simp only [sSeq, sNext, sDrop, sRet, sRetN, sIf, sAsg, gN, fVar, fC, fBin, fUn, fBu, fNil, fCons, fTup, fLst, fB, fIf, fNot, fAnd, fOr, fV, fNotV, fAndV, fOrV, fCall, R.bind, R.bindS, R.of, RS.out, gAdd_int, gSub_int, gLt_int, gLe_int, gGt_int, gGe_int, gNeg_int, gEq_int, gNe_int, gI2C_int, gInt_int, gAbs_int, gLen_lst, gLen_tup, List.getElem?_cons_zero, List.getElem?_cons_succ, List.set_cons_zero, List.set_cons_succ, List.append_nil, if_true, if_false, decide_true, decide_false, Int.reduceEq, Int.reduceLT, Int.reduceLE, Int.reduceNeg, Int.reduceAdd, Int.reduceSub, Bool.not_true, Bool.not_false, reduceIte, Bool.false_eq_true, Option.map_some, Option.bind_some, Nat.reduceAdd, gTupF, gsCons, gsNil, seqOf, lisOf, lstOf, List.length_cons, List.length_nil, ix, hj']) (rngD 0 ds.length) [some (.tup ds), some (.tup ds), none] S ⟨⟨none, rfl⟩, rfl, fun d hd => by
        obtain ⟨i, hi⟩ := List.mem_iff_getElem?.mp hd
        obtain ⟨h1, h2⟩ := rngD_get hi
        exact ⟨i, h1, by rw [h2, Int.zero_add]⟩⟩
  exact ⟨o, q⟩
theorem same_tup {S : Sto} {k : Nat} {ds : List FL.D} (hl : ds.length ≤ 1000) (h : ∀ d ∈ ds, f_l_same k [d, d] S = .ok (.bl true) S) : f_l_same (k + 1) [.tup ds, .tup ds] S = .ok (.bl true) S := by
  rw [show f_l_same (k + 1) [.tup ds, .tup ds] S = (g_l_same (f_l_same k) [some (.tup ds), some (.tup ds), none] S).out from rfl]
  unfold g_l_same
  have t1 := is_tup (S := S) (ds := ds)
  obtain ⟨o, q⟩ := same_loop (S := S) (k := k) h
  have hs := (sFor_fix (g := gN 2) (b := bSame k) (same_rng (S := S) hl)).trans q
  rw [seqR (d := .bl true) (S' := S) (by
    rw [sIf_t (S1 := S) (by simp only [sSeq, sNext, sDrop, sRet, sRetN, sIf, sAsg, gN, fVar, fC, fBin, fUn, fBu, fNil, fCons, fTup, fLst, fB, fIf, fNot, fAnd, fOr, fV, fNotV, fAndV, fOrV, fCall, R.bind, R.bindS, R.of, RS.out, gAdd_int, gSub_int, gLt_int, gLe_int, gGt_int, gGe_int, gNeg_int, gEq_int, gNe_int, gI2C_int, gInt_int, gAbs_int, gLen_lst, gLen_tup, List.getElem?_cons_zero, List.getElem?_cons_succ, List.set_cons_zero, List.set_cons_succ, List.append_nil, if_true, if_false, decide_true, decide_false, Int.reduceEq, Int.reduceLT, Int.reduceLE, Int.reduceNeg, Int.reduceAdd, Int.reduceSub, Bool.not_true, Bool.not_false, reduceIte, Bool.false_eq_true, Option.map_some, Option.bind_some, Nat.reduceAdd, gTupF, gsCons, gsNil, seqOf, lisOf, lstOf, List.length_cons, List.length_nil, t1])]
    rw [seq1 (env' := [some (.tup ds), some (.tup ds), none]) (S' := S) (by simp only [sSeq, sNext, sDrop, sRet, sRetN, sIf, sAsg, gN, fVar, fC, fBin, fUn, fBu, fNil, fCons, fTup, fLst, fB, fIf, fNot, fAnd, fOr, fV, fNotV, fAndV, fOrV, fCall, R.bind, R.bindS, R.of, RS.out, gAdd_int, gSub_int, gLt_int, gLe_int, gGt_int, gGe_int, gNeg_int, gEq_int, gNe_int, gI2C_int, gInt_int, gAbs_int, gLen_lst, gLen_tup, List.getElem?_cons_zero, List.getElem?_cons_succ, List.set_cons_zero, List.set_cons_succ, List.append_nil, if_true, if_false, decide_true, decide_false, Int.reduceEq, Int.reduceLT, Int.reduceLE, Int.reduceNeg, Int.reduceAdd, Int.reduceSub, Bool.not_true, Bool.not_false, reduceIte, Bool.false_eq_true, Option.map_some, Option.bind_some, Nat.reduceAdd, gTupF, gsCons, gsNil, seqOf, lisOf, lstOf, List.length_cons, List.length_nil, t1])]
    rw [seq1 hs]
    rfl)]
  rfl
theorem is_str {S : Sto} {x : PySem.Str} : gIsi [] S [.str x, .ty "str"] = some (.bl true) := by rfl
theorem is_str0 {S : Sto} {x : PySem.Str} : gIsi [] S [.str x, .ty "tuple"] = some (.bl false) := by rfl
theorem gEq_str {S : Sto} {x : PySem.Str} (h : PySem.PyData.strOk x = true) : gEq false S (.str x) (.str x) = some (.bl true) := by
  have hs : PySem.SeqAt.shaped (.str x) = true := by
    show (PySem.PyData.strOk x && decide ((0 : Nat) ≤ 64)) = true
    rw [h]
    rfl
  show (if (PySem.SeqAt.shaped (PySem.PyData.str x) && PySem.SeqAt.shaped (PySem.PyData.str x)) = true then some (FL.D.bl (PySem.PyData.eqv (.str x) (.str x))) else none) = _
  rw [hs, if_pos (by rfl)]
  show some (FL.D.bl (x == x)) = _
  rw [beq_self_eq_true]
theorem same_word {S : Sto} {k : Nat} {x : String} (h : PySem.PyData.strOk (PySem.Str.ofString x) = true) : f_l_same (k + 1) [wordD x, wordD x] S = .ok (.bl true) S := by
  rw [show f_l_same (k + 1) [wordD x, wordD x] S = (g_l_same (f_l_same k) [some (wordD x), some (wordD x), none] S).out from rfl]
  unfold g_l_same
  have t1 := is_str0 (S := S) (x := PySem.Str.ofString x)
  have t2 := is_str (S := S) (x := PySem.Str.ofString x)
  have t3 := gEq_str (S := S) h
  have t5 : gIsN false S (wordD x) .non = some (.bl false) := by rfl
  simp only [sSeq, sNext, sDrop, sRet, sRetN, sIf, sAsg, gN, fVar, fC, fBin, fUn, fBu, fNil, fCons, fTup, fLst, fB, fIf, fNot, fAnd, fOr, fV, fNotV, fAndV, fOrV, fCall, R.bind, R.bindS, R.of, RS.out, gAdd_int, gSub_int, gLt_int, gLe_int, gGt_int, gGe_int, gNeg_int, gEq_int, gNe_int, gI2C_int, gInt_int, gAbs_int, gLen_lst, gLen_tup, List.getElem?_cons_zero, List.getElem?_cons_succ, List.set_cons_zero, List.set_cons_succ, List.append_nil, if_true, if_false, decide_true, decide_false, Int.reduceEq, Int.reduceLT, Int.reduceLE, Int.reduceNeg, Int.reduceAdd, Int.reduceSub, Bool.not_true, Bool.not_false, reduceIte, Bool.false_eq_true, Option.map_some, Option.bind_some, Nat.reduceAdd, gTupF, gsCons, gsNil, seqOf, lisOf, lstOf, List.length_cons, List.length_nil, t1, t2, t3, t5]
/-! ### refused -/
theorem isi_x {S : Sto} {C : PySem.Addr} {fs : List (PySem.Str × FL.D)} {t : PySem.Addr} {b : Bool} : gIsi [(C, .inr t, b)] S [.exn C fs, .ref t] = some (.bl b) := by
  show (lookT C (.inr t) [(C, .inr t, b)]).map FL.D.bl = _
  unfold lookT
  rw [if_pos rfl, if_pos rfl]
  rfl
theorem isi_y {S : Sto} {C : PySem.Addr} {fs : List (PySem.Str × FL.D)} {t : String} {b : Bool} : gIsi [(C, .inl t, b)] S [.exn C fs, .ty t] = some (.bl b) := by
  show (lookT C (.inl t) [(C, .inl t, b)]).map FL.D.bl = _
  unfold lookT
  rw [if_pos rfl, if_pos rfl]
  rfl
theorem same2 {S : Sto} {k : Nat} {x y : FL.D} (h1 : f_l_same k [x, x] S = .ok (.bl true) S) (h2 : f_l_same k [y, y] S = .ok (.bl true) S) : f_l_same (k + 1) [.tup [x, y], .tup [x, y]] S = .ok (.bl true) S :=
  same_tup (by show 2 ≤ 1000; decide) fun d hd => by
    rcases List.mem_cons.mp hd with rfl | hd
    · exact h1
    · rw [List.mem_singleton.mp hd]; exact h2
def goodW (x : String) : Prop := PySem.PyData.strOk (PySem.Str.ofString x) = true
def toldD (x : FL.D) (w : Option (String × Int)) : FL.D := match w with
  | none => .tup [wordD "told", x]
  | some r => firstD (some r)
theorem firstV_mem : ∀ {ls : List Look} {r : String × Int}, firstV ls = some r → ∃ k ∈ ls, k.1 = r.1
  | [], r, h => by cases h
  | x :: ls, r, h => by
    unfold firstV at h
    by_cases hb : badB x = true
    · rw [if_pos hb] at h
      cases h
      exact ⟨x, List.mem_cons_self, rfl⟩
    · rw [if_neg hb] at h
      obtain ⟨k, hk, e⟩ := firstV_mem h
      exact ⟨k, List.mem_cons_of_mem _ hk, e⟩
theorem firstV_none : ∀ {ls : List Look}, firstV ls = none → ∀ k ∈ ls, badB k = false
  | [], _, k, hk => by cases hk
  | x :: r, h, k, hk => by
    unfold firstV at h
    by_cases hb : badB x = true
    · rw [if_pos hb] at h
      cases h
    · rw [if_neg hb] at h
      rcases List.mem_cons.mp hk with e | hk
      · rw [e]
        simpa using hb
      · exact firstV_none h k hk
end
section
variable {K : R FL.D → Prop} {S : Sto} {c : String → PySem.Addr}
/-! ### the program: looks -/
abbrev kS (who n : Int) : Look := ("seeker", who, 0, n - 1)
abbrev kD (desk m : Int) : Look := ("desk", desk, -1, m - 1)
abbrev kPr (n m : Int) : Look := ("prices", n, m, m)
abbrev kPc (p : Int) : Look := ("price", p, 0, 9999)
abbrev kM (by_ : Int) : Look := ("measure", by_, 1, 100)
abbrev kL (sl : Int) : Look := ("slack", sl, 0, 100)
abbrev excW (c : String → PySem.Addr) (r : String × Int) (S : Sto) : R FL.D := .exc (c "OutOfRange") (excF r) S
theorem r_within {w : String} {v a b : Int} (qx : badB (w, v, a, b) = true → W (excW c (w, v) S) K) (q : badB (w, v, a, b) = false → W (.ok .non S) K) : W (f_within c [wordD w, .int v, .int a, .int b] S) K := by
  have e := e_within (c := c) (S := S) (k := (w, v, a, b))
  refine w_eq e ?_
  cases h : badB (w, v, a, b) with
  | true => exact qx h
  | false => exact q h
theorem bad_f {w : String} {v a b : Int} (h : badB (w, v, a, b) = false) : a ≤ v ∧ v ≤ b := by
  unfold badB at h
  obtain ⟨h1, h2⟩ := Bool.or_eq_false_iff.mp h
  have h1 := of_decide_eq_false h1
  have h2 := of_decide_eq_false h2
  dsimp only at h1 h2
  omega
structure Tb where
  ps : List Int
  rows : List (List Int)
  most : Int
structure Tb.Ok (t : Tb) : Prop where
  p0 : 1 ≤ t.ps.length
  p6 : t.ps.length ≤ 6
  pb : ∀ p ∈ t.ps, 1 ≤ p ∧ p ≤ 9
  r30 : t.rows.length ≤ 30
  rl : ∀ r ∈ t.rows, r.length = t.ps.length
  rb : ∀ r ∈ t.rows, ∀ x ∈ r, 0 ≤ x ∧ x ≤ 99
  m1 : 1 ≤ t.most ∧ (t.rows.length : Int) ≤ t.most ∧ t.most ≤ 30
abbrev rowT (r : List Int) : FL.D := .tup (iD r)
abbrev tabF (t : Tb) : List (PySem.Str × FL.D) := [("places", .tup (iD t.ps)), ("rows", .tup (t.rows.map rowT)), ("most", .int t.most)]
abbrev tabD (c : String → PySem.Addr) (t : Tb) : FL.D := .obj (c "Table") (tabF t)
local macro_rules | `(tactic| walk_at "call") => `(tactic| (with_reducible refine r_within (fun _ => ?_) (fun _ => ?_)))
local macro_rules | `(tactic| walk_at "call") => `(tactic| (with_reducible first | refine r_desks ?_ | refine r_seekers ?_))
end
section
variable {K : R FL.D → Prop} {S : Sto} {c : String → PySem.Addr} {t : Tb} {g : FL.D} {ps : List Int}
local macro_rules | `(tactic| walk_at "call") => `(tactic| (with_reducible first | refine r_within (fun _ => ?_) (fun _ => ?_) | refine r_desks ?_ | refine r_seekers ?_ | refine r_measure_look (fun _ => ?_) (fun _ => ?_)))
local macro_rules | `(tactic| walk_at "call") => `(tactic| ((with_reducible first | refine w_lenG (ds := ?ds) ?h0 ?q | refine w_tplG (ds := ?ds) ?h0 ?q); (case h0 => assumption)))
/-! ### the program: prices, gains -/
theorem firstV_all (k : Int → Look) : ∀ (a : List Int) (x : Int) (b : List Int), (∀ y ∈ a, badB (k y) = false) → badB (k x) = true → firstV ((a ++ x :: b).map k) = some ((k x).1, (k x).2.1)
  | [], x, b, _, hx => by
    show (if badB (k x) = true then some ((k x).1, (k x).2.1) else _) = _
    rw [if_pos hx]
  | y :: a, x, b, ha, hx => by
    show (if badB (k y) = true then some ((k y).1, (k y).2.1) else firstV ((a ++ x :: b).map k)) = _
    rw [ha y List.mem_cons_self, if_neg Bool.false_ne_true]
    exact firstV_all k a x b (fun z hz => ha z (List.mem_cons_of_mem _ hz)) hx
theorem firstV_allN (k : Int → Look) : ∀ (a : List Int), (∀ y ∈ a, badB (k y) = false) → firstV (a.map k) = none
  | [], _ => rfl
  | y :: a, ha => by
    show (if badB (k y) = true then some ((k y).1, (k y).2.1) else firstV (a.map k)) = _
    rw [ha y List.mem_cons_self, if_neg Bool.false_ne_true]
    exact firstV_allN k a (fun z hz => ha z (List.mem_cons_of_mem _ hz))
theorem firstV_t {k : Look} {r : List Look} (h : badB k = true) : firstV (k :: r) = some (k.1, k.2.1) := by
  unfold firstV; rw [if_pos h]
theorem firstV_f {k : Look} {r : List Look} (h : badB k = false) : firstV (k :: r) = firstV r := by
  conv => lhs; unfold firstV
  rw [h, if_neg Bool.false_ne_true]
abbrev lkP0 (ps : List Int) (m : Int) : List Look := kPr ps.length m :: ps.map kPc
end
section
variable {K : R FL.D → Prop} {xs : List Int} {T S : Sto} {row kn l : List Int} {s : Int} {g g1 g2 : FL.D}
/-! ### the cases -/
abbrev lD (l : List Int) : FL.D := .lst (iD l)
local macro_rules | `(tactic| walk_at "call") => `(tactic| ((with_reducible refine r_draw ?h0 ?h1 ?h2 (fun _ _ _ _ _ => ?q)); (case h0 => walk_at "side"); (case h1 => walk_at "side"); (case h2 => walk_at "side")))
local macro_rules | `(tactic| walk_at "call") => `(tactic| ((with_reducible refine r_measure ?h0 (fun _ _ _ _ _ => ?q)); (case h0 => walk_at "side")))
structure Cs (row : List Int) (s : Int) (kn : List Int) : Prop where
  r1 : 1 ≤ row.length ∧ row.length ≤ 6
  rb : ∀ x ∈ row, 0 ≤ x ∧ x ≤ 99
  s1 : 1 ≤ s ∧ s ≤ 100
  kl : kn.length = row.length
  kb : ∀ x ∈ kn, 0 ≤ x ∧ x ≤ 9999
abbrev csD (row : List Int) (s : Int) (kn : List Int) : FL.D := .lst [lD row, .int s, lD kn]
def g_l_case_t2 : SF :=
  (sSeq (sAsg (fBin gAdd (fC (.int 1)) (fBin gMod (fBu gInt (fCons (fBin gAdd (fVar 1) (fCall f_l_draw [] (fCons (fVar 0) (fCons (fC (.int 6)) fNil)))) fNil)) (fC (.int 6)))) (gN 3))
  (sSeq (sAsg (fLc (iRng gRng1 (fCons (fVar 3) fNil)) (gN 9) fYes (fBin gMod (fBu gInt (fCons (fBin gAdd (fBin gAdd (fC (.int 3)) (fBin gMulA (fC (.int 2)) (fVar 9))) (fCall f_l_draw [] (fCons (fVar 0) (fCons (fVar 2) fNil)))) fNil)) (fVar 2)) [9]) (gN 4))
  (sSeq (sAsg (fCall f_l_measure [] (fCons (fVar 0) fNil)) (gN 5))
  (sSeq (sAsg (fBin gMod (fBu gInt (fCons (fBin gAdd (fVar 1) (fCall f_l_draw [] (fCons (fVar 0) (fCons (fC (.int 4)) fNil)))) fNil)) (fC (.int 4))) (gN 6))
  (sSeq (sAsg (fBin gMod (fBu gInt (fCons (fBin gAdd (fC (.int 7)) (fCall f_l_draw [] (fCons (fVar 0) (fCons (fC (.int 30)) fNil)))) fNil)) (fC (.int 30))) (gN 7))
  (sSeq (sAsg (fLoc fNil) (gN 8))
  (sSeq (sFor (iRng gRng1 (fCons (fVar 3) fNil)) (gN 9) (sDrop (fMut gAppend (fVar 8) (fCons (fCall f_l_cost [] (fCons (fVar 0) (fCons (fVar 6) (fCons (fBin gMulA (fVar 5) (fBin gIx (fVar 4) (fVar 9))) (fCons (fVar 7) (fCons (fVar 9) fNil)))))) fNil))))
  (sRet (fLst (fCons (fVar 4) (fCons (fVar 5) (fCons (fVar 8) fNil))))))))))))
theorem g_l_case_eq : g_l_case = (sSeq (sAsg (fC (.int 6)) (gN 2))
  (sSeq (sIf (fB (fBin (gEq false) (fCall f_l_draw [] (fCons (fVar 0) (fCons (fC (.int 5)) fNil))) (fC (.int 4)))) (sAsg (fC (.int 100)) (gN 2)) sNext)
  g_l_case_t2)) := rfl
theorem r_case2 {plain size : Int} {ys : List Int} (hy : ys.length ≤ 63) (hp : 0 ≤ plain ∧ plain ≤ 10) (hs : size = 6 ∨ size = 100) (hT : T.all (Cell.plain (T.length + 1)) = true) (q : ∀ row s kn ys, Cs row s kn → ys.length ≤ 63 → W (.ok (csD row s kn) (pool ys T)) K) : W (g_l_case_t2 [some (.loc 0), some (.int plain), some (.int size), none, none, none, none, none, none, none] (pool ys T)) (Of (Fz (pool xs T) K)) := by
  unfold g_l_case_t2
  have hs0 : 6 ≤ size ∧ size ≤ 100 := by omega
  walk_at "ws"
  rename_i m0 zs m1 m2 hz
  obtain ⟨n, hn, hn1⟩ : ∃ n : Nat, (1 + (plain + m0) % 6).toNat = n ∧ 1 + (plain + m0) % 6 = (n : Int) := ⟨_, rfl, by omega⟩
  have hn6 : 1 ≤ n ∧ n ≤ 6 := by omega
  rw [hn]
  rw [hn1]
  refine w_lcI (enc := fun k : Nat => FL.D.int (k : Int)) (l := List.range n) (fun pre post acc S' => ∃ ns ws, acc = iD ns ∧ ns.length = pre.length ∧ (∀ x ∈ ns, 0 ≤ x ∧ x ≤ 99) ∧ ws.length ≤ 63 ∧ S' = pool ws T) (by rw [List.length_range]; omega) ⟨[], zs, rfl, rfl, (fun x h => by cases h), hz, rfl⟩ (fun pre k post acc S' e ha I => ?_) fun acc S' I => ?_
  · obtain ⟨ns, ws, rfl, h1, h2, h3, rfl⟩ := I
    walk_at "ws"
    rename_i v vs v1 v2 hv
    have w0 : 0 ≤ (3 + 2 * (k : Int) + v) % size := Int.emod_nonneg _ (by omega)
    have w1 : (3 + 2 * (k : Int) + v) % size < size := Int.emod_lt_of_pos _ (by omega)
    refine ⟨ns ++ [(3 + 2 * (k : Int) + v) % size], vs, (List.map_append (f := FL.D.int) (l₁ := ns) (l₂ := [_])).symm, by rw [List.length_append, List.length_append, h1]; rfl, fun x hx => ?_, hv, rfl⟩
    rcases List.mem_append.mp hx with hx | hx
    · exact h2 x hx
    · rw [List.mem_singleton.mp hx]; omega
  · obtain ⟨row, ws, rfl, h1, h2, h3, rfl⟩ := I
    rw [List.length_range] at h1
    walk_at "ws"
    rename_i sc ws1 s1 s2 hw1 md ws2 b1 b2 hw2 cm ws3 b3 b4 hw3
    rw [Int.toNat_natCast]
    refine w_for_rng0 (fun k env S' => ∃ kn ws o9, kn.length = k ∧ (∀ x ∈ kn, 0 ≤ x ∧ x ≤ 9999) ∧ ws.length ≤ 63 ∧ env = [some (.loc 0), some (.int plain), some (.int size), some (.int (n : Int)), some (lD row), some (.int sc), some (.int ((plain + md) % 4)), some (.int ((7 + cm) % 30)), some (.loc (T.length + 1)), o9] ∧ S' = pool ws (T ++ [.lst (iD kn)])) ⟨[], ws3, none, rfl, (fun x h => by cases h), hw3, rfl, rfl⟩ (fun k env S' hk I => ?_) fun env S' I => ?_
    · obtain ⟨kn, ws, o9, hkl, hkb, hw, rfl, rfl⟩ := I
      walk_at "ws"
      rename_i x x1 x2 x3
      have hx := h2 x x1
      have p0 : 0 ≤ sc * x := Int.mul_nonneg (by omega) (by omega)
      have p1 : sc * x ≤ 100 * 99 := Int.mul_le_mul (by omega) (by omega) (by omega) (by omega)
      refine r_cost (cm := (7 + cm) % 30) (T := T ++ [.lst (iD kn)]) hw ⟨p0, by omega⟩ (by omega) fun v ws4 v1 v2 hw4 => ?_
      walk_at "ws"
      with_reducible refine w_lp1 ?_
      refine ⟨kn ++ [v], ws4, some (.int (k : Int)), by rw [List.length_append, hkl]; rfl, fun x hx2 => ?_, hw4, rfl, rfl⟩
      rcases List.mem_append.mp hx2 with hx2 | hx2
      · exact hkb x hx2
      · rw [List.mem_singleton.mp hx2]; omega
    · obtain ⟨kn, ws, o9, hkl, hkb, hw, rfl, rfl⟩ := I
      walk_at "ws"
      refine w_fzP hT (frzV_lst (frzL_cons (frzV_plain (by unfold FL.D.plain; exact pl_iD _ _)) (frzL_cons (frzV_plain pl_int) (frzL_cons (frzV_loc (Nat.le_refl _) (get_pool0 _ _ _) (frzL_plain (pl_ints _ _))) rfl)))) (q row sc kn ws ⟨by omega, h2, ⟨s1, s2⟩, by omega, hkb⟩ hw)
theorem r_case {plain : Int} (hl : xs.length ≤ 63) (hp : 0 ≤ plain ∧ plain ≤ 10) (hT : T.all (Cell.plain (T.length + 1)) = true) (q : ∀ row s kn ys, Cs row s kn → ys.length ≤ 63 → W (.ok (csD row s kn) (pool ys T)) K) : W (m_l_case [.loc 0, .int plain] (pool xs T)) K := by
  refine w_fz ?_
  show W (g_l_case [some (.loc 0), some (.int plain), none, none, none, none, none, none, none, none] (pool xs T)) (Of (Fz (pool xs T) K))
  rw [g_l_case_eq]
  walk_at "ws"
  · exact r_case2 (by assumption) hp (.inr rfl) hT q
  · exact r_case2 (by assumption) hp (.inl rfl) hT q
/-! ### what is wrong -/
abbrev kRow (n : Int) : Look := ("row", n, 1, 6)
abbrev kWo (x : Int) : Look := ("worth", x, 0, 99)
abbrev kSc (x : Int) : Look := ("scale", x, 1, 100)
abbrev kKn (n m : Int) : Look := ("known", n, m, m)
def lkR (row : List Int) (s : Int) : List Look := kRow row.length :: (row.map kWo ++ [kSc s])
def lk51 (row : List Int) (s : Int) (kn : List Int) : List Look := lkR row s ++ (kKn kn.length row.length :: kn.map kPc)
def wrD (o : Option (String × Int)) : FL.D := match o with
  | none => .non
  | some r => .tup [wordD r.1, .int r.2]
theorem bad_t {w : String} {v a b : Int} (h : v < a ∨ b < v) : badB (w, v, a, b) = true := by
  unfold badB
  rw [Bool.or_eq_true, decide_eq_true_eq, decide_eq_true_eq]
  exact h
theorem bad_n {w : String} {v a b : Int} (h1 : a ≤ v) (h2 : v ≤ b) : badB (w, v, a, b) = false := by
  unfold badB
  rw [Bool.or_eq_false_iff, decide_eq_false_iff_not, decide_eq_false_iff_not]
  dsimp only
  omega
theorem fV_app1 {a b : List Look} {r : String × Int} (h : firstV a = some r) : firstV (a ++ b) = some r := by rw [firstV_append, h]
theorem fV_app0 {a b : List Look} (h : firstV a = none) : firstV (a ++ b) = firstV b := by rw [firstV_append, h]
theorem fV_one {k : Look} (h : badB k = true) : firstV [k] = some (k.1, k.2.1) := firstV_t h
theorem r_wrong (hr : row.length ≤ 100) (hk : kn.length ≤ 100) (q : W (.ok (wrD (firstV (lk51 row s kn))) S) K) : W (f_l_wrong [lD row, .int s, lD kn] S) K := by
  show W (g_l_wrong [some (lD row), some (.int s), some (lD kn), none, none] S) (Of K)
  unfold g_l_wrong
  walk_at "ws"
  · rw [show firstV (lk51 row s kn) = some ("row", (row.length : Int)) from firstV_t (bad_t (.inl (by assumption)))] at q
    exact q
  · rw [show firstV (lk51 row s kn) = some ("row", (row.length : Int)) from firstV_t (bad_t (.inr (by assumption)))] at q
    exact q
  have b0 : badB (kRow row.length) = false := bad_n (by omega) (by omega)
  refine w_for_giv (enc := FL.D.int) (l := row) (.inl rfl) (fun pre post env => (∃ o, env = [some (lD row), some (.int s), some (lD kn), o, none]) ∧ ∀ y ∈ pre, badB (kWo y) = false) ⟨⟨_, rfl⟩, fun y z => by cases z⟩ (fun pre x post env e I => ?_) fun env I => ?_
  · obtain ⟨⟨o, rfl⟩, I⟩ := I
    have hit : badB (kWo x) = true → firstV (lk51 row s kn) = some ("worth", x) := fun h => by
      show firstV (kRow row.length :: (row.map kWo ++ [kSc s] ++ (kKn kn.length row.length :: kn.map kPc))) = _
      rw [firstV_f b0, List.append_assoc]
      exact fV_app1 (by rw [← e]; exact firstV_all kWo pre x post I h)
    walk_at "ws"
    · rw [hit (bad_t (.inl (by assumption)))] at q
      exact q
    · rw [hit (bad_t (.inr (by assumption)))] at q
      exact q
    · refine w_lp1 ⟨rfl, ⟨_, rfl⟩, fun y hy => ?_⟩
      rcases List.mem_append.mp hy with hy | hy
      · exact I y hy
      · rw [List.mem_singleton.mp hy]; exact bad_n (by omega) (by omega)
  · obtain ⟨⟨o, rfl⟩, I⟩ := I
    have e1 : firstV (lk51 row s kn) = firstV ([kSc s] ++ (kKn kn.length row.length :: kn.map kPc)) := by
      show firstV (kRow row.length :: (row.map kWo ++ [kSc s] ++ (kKn kn.length row.length :: kn.map kPc))) = _
      rw [firstV_f b0, List.append_assoc]
      exact fV_app0 (firstV_allN kWo row I)
    rw [e1] at q
    walk_at "ws"
    · rw [show firstV ([kSc s] ++ (kKn kn.length row.length :: kn.map kPc)) = some ("scale", s) from fV_app1 (fV_one (bad_t (.inl (by assumption))))] at q
      exact q
    · rw [show firstV ([kSc s] ++ (kKn kn.length row.length :: kn.map kPc)) = some ("scale", s) from fV_app1 (fV_one (bad_t (.inr (by assumption))))] at q
      exact q
    · rename_i h1 h2 h3
      have b1 : badB (kSc s) = false := bad_n (by omega) (by omega)
      rw [show firstV ([kSc s] ++ (kKn kn.length row.length :: kn.map kPc)) = some ("known", (kn.length : Int)) from (firstV_f b1).trans (firstV_t (bad_t (by omega)))] at q
      exact q
    rename_i h1 h2 h3
    have b1 : badB (kSc s) = false := bad_n (by omega) (by omega)
    have b2 : badB (kKn kn.length row.length) = false := bad_n (by omega) (by omega)
    rw [show firstV ([kSc s] ++ (kKn kn.length row.length :: kn.map kPc)) = firstV (kn.map kPc) from (firstV_f b1).trans (firstV_f b2)] at q
    refine w_for_giv (enc := FL.D.int) (l := kn) (.inl rfl) (fun pre post env => (∃ o2, env = [some (lD row), some (.int s), some (lD kn), o, o2]) ∧ ∀ y ∈ pre, badB (kPc y) = false) ⟨⟨_, rfl⟩, fun y z => by cases z⟩ (fun pre x post env e I => ?_) fun env I => ?_
    · obtain ⟨⟨o2, rfl⟩, I⟩ := I
      have hit : badB (kPc x) = true → firstV (kn.map kPc) = some ("price", x) := fun h => by
        rw [← e]; exact firstV_all kPc pre x post I h
      walk_at "ws"
      · rw [hit (bad_t (.inl (by assumption)))] at q
        exact q
      · rw [hit (bad_t (.inr (by assumption)))] at q
        exact q
      · refine w_lp1 ⟨rfl, ⟨_, rfl⟩, fun y hy => ?_⟩
        rcases List.mem_append.mp hy with hy | hy
        · exact I y hy
        · rw [List.mem_singleton.mp hy]; exact bad_n (by omega) (by omega)
    · obtain ⟨⟨o2, rfl⟩, I⟩ := I
      walk_at "ws"
      rw [firstV_allN kPc kn I] at q
      exact q
end
section
variable {K : R FL.D → Prop} {xs zs : List Int} {T S : Sto}
/-! ### lists and their equality -/
abbrev pyL (r : List Int) : PySem.PyData := .list (r.map .int)
theorem py_iD (S : Sto) (l : List Int) : FL.D.py S (lD l) = some (pyL l) := by
  unfold FL.D.py
  show ((pys S (iD l)).map PySem.PyData.list) = _
  rw [pys_iD]
  rfl
theorem py_loc {S : Sto} {m : Nat} {l : List Int} (hc : S[m]? = some (.lst (iD l))) : FL.D.py S (.loc m) = some (pyL l) := by
  unfold FL.D.py
  rw [hc]
  show ((pys0 (iD l)).map PySem.PyData.list) = _
  rw [pys0_iD]
  rfl
theorem pys_lD (S : Sto) : ∀ rs : List (List Int), pys S (rs.map lD) = some (rs.map pyL)
  | [] => rfl
  | x :: r => by
    show (match FL.D.py S (lD x), pys S (r.map lD) with
      | some a, some b => some (a :: b)
      | _, _ => none) = _
    rw [pys_lD S r, py_iD]
    rfl
theorem py_lD (S : Sto) (l : List (List Int)) : FL.D.py S (.lst (l.map lD)) = some (.list (l.map pyL)) := by
  unfold FL.D.py
  show ((pys S (l.map lD)).map PySem.PyData.list) = _
  rw [pys_lD]
  rfl
theorem eqvI : ∀ a b : List Int, PySem.PyData.eqvAll (a.map .int) (b.map .int) = decide (a = b)
  | [], [] => rfl
  | [], _ :: _ => rfl
  | _ :: _, [] => rfl
  | x :: a, y :: b => by
    show ((x == y) && PySem.PyData.eqvAll (a.map .int) (b.map .int)) = _
    rw [eqvI a b, Bool.beq_eq_decide_eq]
    by_cases h1 : x = y <;> by_cases h2 : a = b <;> simp [h1, h2]
theorem eqvL : ∀ a b : List (List Int), PySem.PyData.eqvAll (a.map pyL) (b.map pyL) = decide (a = b)
  | [], [] => rfl
  | [], _ :: _ => rfl
  | _ :: _, [] => rfl
  | x :: a, y :: b => by
    show (PySem.PyData.eqvAll (x.map .int) (y.map .int) && PySem.PyData.eqvAll (a.map pyL) (b.map pyL)) = _
    rw [eqvL a b, eqvI]
    by_cases h1 : x = y <;> by_cases h2 : a = b <;> simp [h1, h2]
theorem sh_iD (l : List Int) : PySem.SeqAt.shaped (pyL l) = true := shaped_of (lay_iD l) (by rw [dep_iD]; omega)
theorem lay_lD : ∀ l : List (List Int), PySem.PyData.canLayAll0 (l.map pyL) = true
  | [] => rfl
  | x :: r => by
    show (PySem.PyData.canLayAll0 (x.map .int) && PySem.PyData.canLayAll0 (r.map pyL)) = true
    rw [lay_lD r, lay_iD]
    rfl
theorem dep_lD : ∀ l : List (List Int), PySem.PyData.depthAll (l.map pyL) ≤ 1
  | [] => Nat.zero_le _
  | x :: r => by
    show max (PySem.PyData.depthAll (x.map .int) + 1) (PySem.PyData.depthAll (r.map pyL)) ≤ 1
    have := dep_lD r
    rw [dep_iD]
    omega
theorem sh_lD (l : List (List Int)) : PySem.SeqAt.shaped (.list (l.map pyL)) = true := shaped_of (lay_lD l) (by have := dep_lD l; omega)
theorem gEq_py {S : Sto} {neg : Bool} {d e : FL.D} {x y : List PySem.PyData} (h1 : d.py S = some (.list x)) (h2 : e.py S = some (.list y)) (s1 : PySem.SeqAt.shaped (.list x) = true) (s2 : PySem.SeqAt.shaped (.list y) = true) :
    gEq neg S d e = some (.bl (if neg then !PySem.PyData.eqvAll x y else PySem.PyData.eqvAll x y)) := by
  unfold gEq
  rw [h1, h2]
  show (if (PySem.SeqAt.shaped (.list x) && PySem.SeqAt.shaped (.list y)) = true then some (FL.D.bl (if neg then !PySem.PyData.eqvAll x y else PySem.PyData.eqvAll x y)) else none) = _
  rw [s1, s2, if_pos (by rfl)]
theorem w_eqH {neg : Bool} {a b : List Int} {g1 g2 : FL.D} (h1 : FL.D.py S g1 = some (pyL a)) (h2 : FL.D.py S g2 = some (pyL b)) (q : W (.ok (.bl (!neg)) S) K) : W (R.of (gEq neg S (.lst [g1, g2]) (.lst [lD a, lD b])) S) K := by
  have e1 : FL.D.py S (.lst [lD a, lD b]) = some (.list ([a, b].map pyL)) := py_lD S [a, b]
  have e2 : FL.D.py S (.lst [g1, g2]) = some (.list ([a, b].map pyL)) := by
    unfold FL.D.py
    show ((pys S [g1, g2]).map PySem.PyData.list) = _
    unfold pys
    rw [h1]
    unfold pys
    rw [h2]
    rfl
  refine w_of (d := .bl (!neg)) ?_ q
  rw [gEq_py e2 e1 (sh_lD _) (sh_lD _), eqvL, decide_eq_true rfl]
  cases neg <;> rfl
theorem py_lst1 {S : Sto} (l : List Int) : FL.D.py S (lD l) = some (pyL l) := py_iD S l
end
section
variable {K : R FL.D → Prop} {xs : List Int} {T S : Sto} {row kn l : List Int} {s : Int} {g g1 g2 : FL.D} {c : String → PySem.Addr}
/-! ### the program -/
local macro_rules | `(tactic| walk_at "call") => `(tactic| (with_reducible refine r_within (fun _ => ?_) (fun _ => ?_)))
local macro_rules | `(tactic| walk_at "call") => `(tactic| ((with_reducible first | refine w_lenG (ds := ?ds) ?h0 ?q | refine w_tplG (ds := ?ds) ?h0 ?q); (case h0 => assumption)))
theorem getD_of {α : Type} {l : List α} {i : Nat} {x d : α} (h : l[i]? = some x) : l.getD i d = x := by
  rw [List.getD_eq_getElem?_getD, h]; rfl
theorem w_ixG {i : Int} (hg : Giv S g (iD l)) (h0 : 0 ≤ i) (h1 : i < (l.length : Int)) (q : ∀ x, x ∈ l → l[i.toNat]? = some x → (∀ d, l.getD i.toNat d = x) → W (R.ok (.int x) S) K) : W (R.of (gIx S g (.int i)) S) K := by
  have hi : i.toNat < l.length := by omega
  have e : (iD l)[i.toNat]? = some (.int l[i.toNat]) := by rw [List.getElem?_map, List.getElem?_eq_getElem hi]; rfl
  have e2 := hg.ix e
  rw [show ((i.toNat : Nat) : Int) = i by omega] at e2
  exact w_of e2 (q _ (List.getElem_mem hi) (List.getElem?_eq_getElem hi) fun d => getD_of (List.getElem?_eq_getElem hi))
theorem r_look (hg : Giv S g (iD row)) (qx : ∀ r, firstV (lkR row s) = some r → W (excW c r S) K) (q : firstV (lkR row s) = none → W (.ok (.tup (iD row)) S) K) : W (f_row_scale_look c [g, .int s] S) K := by
  show W (g_row_scale_look c [some g, some (.int s), none] S) (Of K)
  unfold g_row_scale_look
  walk_at "ws"
  · rename_i h
    rw [List.length_map] at h ⊢
    exact qx _ (firstV_t h)
  rename_i b0
  rw [List.length_map] at b0
  refine w_for_giv (enc := FL.D.int) (l := row) hg (fun pre post env => (∃ o, env = [some g, some (.int s), o]) ∧ ∀ y ∈ pre, badB (kWo y) = false) ⟨⟨_, rfl⟩, fun y z => by cases z⟩ (fun pre x post env e I => ?_) fun env I => ?_
  · obtain ⟨⟨o, rfl⟩, I⟩ := I
    walk_at "ws"
    · rename_i hx
      refine qx ("worth", x) ?_
      show firstV (kRow row.length :: (row.map kWo ++ [kSc s])) = _
      rw [firstV_f b0]
      exact fV_app1 (by rw [← e]; exact firstV_all kWo pre x post I hx)
    · rename_i hx
      refine w_lp1 ⟨rfl, ⟨_, rfl⟩, fun y hy => ?_⟩
      rcases List.mem_append.mp hy with hy | hy
      · exact I y hy
      · rw [List.mem_singleton.mp hy]; exact hx
  · obtain ⟨⟨o, rfl⟩, I⟩ := I
    have e1 : firstV (lkR row s) = firstV [kSc s] := by
      show firstV (kRow row.length :: (row.map kWo ++ [kSc s])) = _
      rw [firstV_f b0]
      exact fV_app0 (firstV_allN kWo row I)
    rw [e1] at qx q
    walk_at "ws"
    · rename_i h
      exact qx _ (firstV_t h)
    · rename_i h
      refine q ?_
      rw [firstV_f h]
      rfl
def leftL (row : List Int) (s : Int) (kn : List Int) : List Int := (row.zip kn).map fun p => s * p.1 - p.2
theorem lk51_x {r : String × Int} (h : firstV (lkR row s) = some r) : firstV (lk51 row s kn) = some r := fV_app1 h
theorem lk51_n (h : firstV (lkR row s) = none) : firstV (lk51 row s kn) = firstV (kKn kn.length row.length :: kn.map kPc) := fV_app0 h
theorem r_left_at (hg1 : Giv S g1 (iD row)) (hg2 : Giv S g2 (iD kn)) (hr : row.length ≤ 100) (qx : ∀ r, firstV (lk51 row s kn) = some r → W (excW c r S) K) (q : firstV (lk51 row s kn) = none → W (.ok (.tup (iD (leftL row s kn))) S) K) : W (f_left_at c [g1, .int s, g2] S) K := by
  show W (g_left_at c [some g1, some (.int s), some g2, none, none, none] S) (Of K)
  unfold g_left_at
  walk_at "ws"
  refine r_look hg1 (fun r h => ?_) fun hn => ?_
  · walk_at "ws"
    exact qx r (lk51_x h)
  rw [lk51_n hn] at qx q
  walk_at "ws"
  · rename_i h
    try rw [List.length_map] at h
    rw [List.length_map]
    exact qx _ (firstV_t h)
  rename_i b0
  try rw [List.length_map] at b0
  rw [firstV_f b0] at qx q
  refine w_for_giv (enc := FL.D.int) (l := kn) hg2 (fun pre post env => (∃ o, env = [some g1, some (.int s), some g2, some (.tup (iD row)), o, none]) ∧ ∀ y ∈ pre, badB (kPc y) = false) ⟨⟨_, rfl⟩, fun y z => by cases z⟩ (fun pre x post env e I => ?_) fun env I => ?_
  · obtain ⟨⟨o, rfl⟩, I⟩ := I
    walk_at "ws"
    · rename_i hx
      exact qx ("price", x) (by rw [← e]; exact firstV_all kPc pre x post I hx)
    · rename_i hx
      refine w_lp1 ⟨rfl, ⟨_, rfl⟩, fun y hy => ?_⟩
      rcases List.mem_append.mp hy with hy | hy
      · exact I y hy
      · rw [List.mem_singleton.mp hy]; exact hx
  · obtain ⟨⟨o, rfl⟩, I⟩ := I
    have hkl := (bad_f b0).2
    have sb := bad_f (firstV_none hn (kSc s) (List.mem_cons_of_mem _ (List.mem_append_right _ List.mem_cons_self)))
    walk_at "ws"
    refine w_iZip ?_
    walk_at "ws"
    refine w_lcZ (e1 := FL.D.int) (e2 := FL.D.int) (enc2 := FL.D.int) (l := row) (l2 := kn) (.inr (.inl rfl)) hg2 (fun p => s * p.1 - p.2) (by omega) (fun p hp => ?_) ?_
    · walk_at "ws"
      exact w_id rfl
    walk_at "ws"
    exact q (firstV_allN kPc kn I)
theorem idx_spec (m : Int) : ∀ l : List Int, m ∈ l → l.idxOf m < l.length ∧ l.getD (l.idxOf m) 0 = m ∧ ∀ i, i < l.idxOf m → l.getD i 0 ≠ m
  | [], h => by cases h
  | x :: l, h => by
    by_cases e : x = m
    · subst e
      rw [List.idxOf_cons_self]
      exact ⟨by show 0 < l.length + 1; omega, rfl, fun i hi => absurd hi (Nat.not_lt_zero i)⟩
    · obtain ⟨h1, h2, h3⟩ := idx_spec m l ((List.mem_cons.mp h).resolve_left fun z => e z.symm)
      have e1 : (x :: l).idxOf m = l.idxOf m + 1 := by rw [List.idxOf_cons, beq_eq_false_iff_ne.mpr e]; rfl
      rw [e1]
      refine ⟨by show l.idxOf m + 1 < l.length + 1; omega, h2, fun i hi => ?_⟩
      cases i with
      | zero => exact e
      | succ j => exact h3 j (by omega)
theorem max_ex : ∀ l : List Int, 0 < l.length → ∃ m, m ∈ l ∧ ∀ y ∈ l, y ≤ m
  | [], h => absurd h (Nat.lt_irrefl 0)
  | [x], _ => ⟨x, List.mem_cons_self, fun y hy => by rw [List.mem_singleton.mp hy]; exact Int.le_refl _⟩
  | x :: z :: l, _ => by
    obtain ⟨m, h1, h2⟩ := max_ex (z :: l) (Nat.succ_pos _)
    by_cases c : x ≤ m
    · exact ⟨m, List.mem_cons_of_mem _ h1, fun y hy => by
        rcases List.mem_cons.mp hy with rfl | hy
        · exact c
        · exact h2 y hy⟩
    · exact ⟨x, List.mem_cons_self, fun y hy => by
        rcases List.mem_cons.mp hy with rfl | hy
        · exact Int.le_refl _
        · have := h2 y hy
          omega⟩
/-- the desk that is chosen -/
def Chosen (left kn : List Int) (d : FL.D) : Prop := ((∀ x ∈ left, x < 1) ∧ d = .non) ∨
  ∃ j, j < left.length ∧ 1 ≤ left.getD j 0 ∧ (∀ x ∈ left, x ≤ left.getD j 0) ∧ (∀ i, i < j → left.getD i 0 < left.getD j 0) ∧ d = .tup [.int (j : Int), .int (kn.getD j 0 + 1)]
theorem getD_mem {l : List Int} {i : Nat} (h : i < l.length) : l.getD i 0 ∈ l := by
  rw [List.getD_eq_getElem?_getD, List.getElem?_eq_getElem h]
  exact List.getElem_mem h
theorem Chosen.uniq {left : List Int} {d e : FL.D} (h : Chosen left kn d) (h2 : Chosen left kn e) : d = e := by
  rcases h with ⟨a, rfl⟩ | ⟨j, a1, a2, a3, a4, rfl⟩
  · rcases h2 with ⟨_, rfl⟩ | ⟨j, b1, b2, _, _, rfl⟩
    · rfl
    · have := a _ (getD_mem b1)
      omega
  · rcases h2 with ⟨b, rfl⟩ | ⟨i, b1, b2, b3, b4, rfl⟩
    · have := b _ (getD_mem a1)
      omega
    · have e : i = j := by
        rcases Nat.lt_trichotomy i j with c | c | c
        · have := a4 i c
          have := b3 _ (getD_mem a1)
          omega
        · exact c
        · have := b4 j c
          have := a3 _ (getD_mem b1)
          omega
      rw [e]
theorem w_maxT {l : List Int} {m : Int} (h1 : m ∈ l) (h2 : ∀ y ∈ l, y ≤ m) (q : W (R.ok (.int m) S) K) : W (R.of (gMaxT S [.tup (iD l)]) S) K := by
  refine w_of (d := .int m) ?_ q
  show ((intsOf (iD l)).bind maxI).map FL.D.int = _
  rw [intsOf_map l]
  show (maxI l).map FL.D.int = _
  rw [maxI_eq h1 h2]
  rfl
theorem r_choose (hg1 : Giv S g1 (iD row)) (hg2 : Giv S g2 (iD kn)) (hr : row.length ≤ 100) (qx : ∀ r, firstV (lk51 row s kn) = some r → W (excW c r S) K) (q : firstV (lk51 row s kn) = none → kn.length = row.length → ∀ d, Chosen (leftL row s kn) kn d → W (.ok d S) K) : W (f_choose c [g1, .int s, g2] S) K := by
  show W (g_choose c [some g1, some (.int s), some g2, none, none, none] S) (Of K)
  unfold g_choose
  walk_at "ws"
  refine r_left_at hg1 hg2 hr (fun r h => ?_) fun hn => ?_
  · walk_at "ws"
    exact qx r h
  have hfn := firstV_none hn
  have b0 : badB (kRow row.length) = false := hfn _ List.mem_cons_self
  have b1 : badB (kKn kn.length row.length) = false := hfn _ (List.mem_append_right _ List.mem_cons_self)
  have c0 := bad_f b0
  have c1 := bad_f b1
  have hkl : kn.length = row.length := by omega
  have hll : (leftL row s kn).length = row.length := by
    unfold leftL
    rw [List.length_map, List.length_zip]
    omega
  have q := q hn hkl
  generalize leftL row s kn = left at q hll ⊢
  obtain ⟨m, m1, m2⟩ := max_ex left (by omega)
  obtain ⟨i1, i2, i3⟩ := idx_spec m left m1
  walk_at "ws"
  refine w_maxT m1 m2 ?_
  walk_at "ws"
  · exact q _ (.inl ⟨fun x hx => by have := m2 x hx; omega, rfl⟩)
  refine w_idx1 (l := left) rfl m1 ?_
  walk_at "ws"
  refine w_ixG hg2 (by omega) (by omega) fun x x1 x2 x3 => ?_
  walk_at "ws"
  refine q _ (.inr ⟨left.idxOf m, i1, by omega, by rw [i2]; exact m2, fun i hi => ?_, ?_⟩)
  · have := m2 _ (getD_mem (show i < left.length by omega))
    have := i3 i hi
    omega
  · rw [← x3 0, Int.toNat_natCast]
/-! ### what the law is told -/
def toldF (o : Option (String × Int)) (d : FL.D) : FL.D := match o with
  | none => d
  | some r => .lst [wordD r.1, .int r.2, .bl true]
theorem look_false {C : PySem.Addr} {k : String ⊕ PySem.Addr} : ∀ tab : List (PySem.Addr × (String ⊕ PySem.Addr) × Bool), (∀ q ∈ tab, q.1 = C ∧ q.2.2 = false) → (∃ q ∈ tab, q.2.1 = k) → lookT C k tab = some false
  | [], _, h => by obtain ⟨q, hq, _⟩ := h; cases hq
  | (c, u, b) :: l, ha, h => by
    obtain ⟨rfl, rfl⟩ := ha _ List.mem_cons_self
    unfold lookT
    rw [if_pos rfl]
    by_cases e : u = k
    · rw [if_pos e]
    · rw [if_neg e]
      refine look_false l (fun q hq => ha q (List.mem_cons_of_mem _ hq)) ?_
      obtain ⟨q, hq, e2⟩ := h
      rcases List.mem_cons.mp hq with rfl | hq
      · exact absurd e2 e
      · exact ⟨q, hq, e2⟩
theorem any_false {C : PySem.Addr} {tab : List (PySem.Addr × (String ⊕ PySem.Addr) × Bool)} : ∀ ts : List FL.D, (∀ t ∈ ts, ∃ k, keyOf t = some k ∧ lookT C k tab = some false) → anyT tab C ts = some false
  | [], _ => rfl
  | t :: ts, h => by
    obtain ⟨k, h1, h2⟩ := h t List.mem_cons_self
    unfold anyT
    rw [h1]
    show (match lookT C k tab with
      | some true => some true
      | some false => anyT tab C ts
      | none => none) = _
    rw [h2]
    exact any_false ts fun t ht => h t (List.mem_cons_of_mem _ ht)
theorem w_isT3 {C a1 a2 a3 : PySem.Addr} {fs : List (PySem.Str × FL.D)} (q : W (R.ok (.bl false) S) K) : W (R.of (gIsT [(C, .inr a1, false), (C, .inr a2, false), (C, .inr a3, false)] S [.exn C fs, .tup [.ref a1, .ref a2, .ref a3]]) S) K := by
  refine w_of (d := .bl false) ?_ q
  show (anyT _ C [.ref a1, .ref a2, .ref a3]).map FL.D.bl = _
  have hl : ∀ a, a = a1 ∨ a = a2 ∨ a = a3 → lookT C (.inr a) [(C, (.inr a1 : String ⊕ PySem.Addr), false), (C, .inr a2, false), (C, .inr a3, false)] = some false := fun a ha => by
    refine look_false _ (fun q hq => ?_) ?_
    · simp only [List.mem_cons, List.not_mem_nil, or_false] at hq
      rcases hq with rfl | rfl | rfl <;> exact ⟨rfl, rfl⟩
    · rcases ha with rfl | rfl | rfl
      · exact ⟨_, List.mem_cons_self, rfl⟩
      · exact ⟨_, List.mem_cons_of_mem _ List.mem_cons_self, rfl⟩
      · exact ⟨_, List.mem_cons_of_mem _ (List.mem_cons_of_mem _ List.mem_cons_self), rfl⟩
  rw [any_false _ fun t ht => ?_]
  · rfl
  · simp only [List.mem_cons, List.not_mem_nil, or_false] at ht
    rcases ht with rfl | rfl | rfl
    · exact ⟨_, rfl, hl _ (.inl rfl)⟩
    · exact ⟨_, rfl, hl _ (.inr (.inl rfl))⟩
    · exact ⟨_, rfl, hl _ (.inr (.inr rfl))⟩
theorem r_left (hg1 : Giv S g1 (iD row)) (hg2 : Giv S g2 (iD kn)) (hr : row.length ≤ 100) (q : W (.ok (toldF (firstV (lk51 row s kn)) (.tup (iD (leftL row s kn)))) S) K) : W (f_l_left c [g1, .int s, g2] S) K := by
  show W (g_l_left c [some g1, some (.int s), some g2, none, none] S) (Of K)
  unfold g_l_left
  walk_at "ws"
  refine r_left_at hg1 hg2 hr (fun r h => ?_) fun hn => ?_
  · rw [h] at q
    walk_at "ws"
    refine w_of isi_x ?_
    walk_at "ws"
    refine w_of isi_y ?_
    walk_at "ws"
    refine w_isT3 ?_
    walk_at "ws"
    exact q
  · rw [hn] at q
    walk_at "ws"
    exact q
theorem r_chosen (hg1 : Giv S g1 (iD row)) (hg2 : Giv S g2 (iD kn)) (hr : row.length ≤ 100) (q : ∀ d, (firstV (lk51 row s kn) = none → Chosen (leftL row s kn) kn d) → W (.ok (toldF (firstV (lk51 row s kn)) d) S) K) : W (f_l_chosen c [g1, .int s, g2] S) K := by
  show W (g_l_chosen c [some g1, some (.int s), some g2, none, none] S) (Of K)
  unfold g_l_chosen
  walk_at "ws"
  refine r_choose hg1 hg2 hr (fun r h => ?_) fun hn _ d hd => ?_
  · have q := q .non fun z => by rw [h] at z; cases z
    rw [h] at q
    walk_at "ws"
    refine w_of isi_x ?_
    walk_at "ws"
    refine w_of isi_y ?_
    walk_at "ws"
    refine w_isT3 ?_
    walk_at "ws"
    exact q
  · have q := q d fun _ => hd
    rw [hn] at q
    walk_at "ws"
    exact q
end
section
variable {K : R FL.D → Prop} {xs : List Int} {T S : Sto} {row kn l left : List Int} {s : Int} {g g1 g2 : FL.D} {c : String → PySem.Addr}
/-! ### the law's own choice -/
theorem range_rev_at {n k : Nat} {pre post : List Nat} (e : pre ++ k :: post = (List.range n).reverse) : k + pre.length + 1 = n := by
  have hl := congrArg List.length e
  rw [List.length_append, List.length_cons, List.length_reverse, List.length_range] at hl
  have h1 : (List.range n).reverse[pre.length]? = some k := by
    rw [← e, List.getElem?_append_right (Nat.le_refl _), Nat.sub_self]
    rfl
  rw [List.getElem?_reverse (by rw [List.length_range]; omega), List.length_range, List.getElem?_range (by omega)] at h1
  have := Option.some.inj h1
  omega
theorem r_best (hg : Giv S g (iD left)) (hl : left.length ≤ 100) (hk : kn.length = left.length) (q : ∀ d, Chosen left kn d → W (.ok d S) K) : W (f_l_best [g, lD kn] S) K := by
  show W (g_l_best [some g, some (lD kn), none, none, none] S) (Of K)
  unfold g_l_best
  walk_at "ws"
  refine w_iRevR ?_
  walk_at "ws"
  refine w_lenG (ds := iD left) hg ?_
  rw [List.length_map]
  walk_at "ws"
  refine w_srcRR (by omega) (by omega) ?_
  rw [Int.toNat_natCast]
  refine w_for_fix (enc := fun k : Nat => FL.D.int (k : Int)) (l := (List.range left.length).reverse) (fun pre post env S' => S' = S ∧ ∃ b d o, env = [some g, some (lD kn), some (.int b), some d, o] ∧
    ((b = 1 ∧ d = .non ∧ ∀ i, left.length ≤ i + pre.length → i < left.length → left.getD i 0 < 1) ∨
      ∃ j, left.length ≤ j + pre.length ∧ j < left.length ∧ b = left.getD j 0 ∧ 1 ≤ b ∧ (∀ i, left.length ≤ i + pre.length → i < left.length → left.getD i 0 ≤ b) ∧ (∀ i, left.length ≤ i + pre.length → i < j → left.getD i 0 < b) ∧ d = .tup [.int (j : Int), .int (kn.getD j 0 + 1)]))
    ⟨rfl, 1, .non, none, rfl, .inl ⟨rfl, rfl, fun i h1 h2 => by simp at h1; omega⟩⟩ (fun pre k post env S' e I => ?_) fun env S' I => ?_
  · obtain ⟨rfl, b, d, o, rfl, I⟩ := I
    have hk2 := range_rev_at e
    have hpl : (pre ++ [k]).length = pre.length + 1 := by rw [List.length_append]; rfl
    have fst : ∀ i, left.length ≤ i + (pre.length + 1) → i < left.length → i = k ∨ left.length ≤ i + pre.length := fun i h1 h2 => by omega
    have b1 : 1 ≤ b := by rcases I with ⟨h, _⟩ | ⟨j, _, _, _, h, _⟩ <;> omega
    walk_at "ws"
    refine w_ixG hg (by omega) (by omega) fun x x1 x2 x3 => ?_
    rw [Int.toNat_natCast] at x3
    walk_at "ws"
    · rename_i hx
      refine w_ixG hg (by omega) (by omega) fun y y1 y2 y3 => ?_
      rw [Int.toNat_natCast] at y3
      walk_at "ws"
      rename_i z z1 z2 z3
      with_reducible refine w_lp1 ?_
      have ez : kn.getD k 0 = z := by have := z3 0; first | exact this | (rw [Int.toNat_natCast] at this; exact this)
      refine ⟨rfl, y, _, _, rfl, .inr ⟨k, ?_, ?_, (y3 0).symm, ?_, fun i h1 h2 => ?_, fun i h1 h2 => ?_, by rw [ez]⟩⟩
      · rw [hpl]; omega
      · omega
      · have := x3 0
        have := y3 0
        omega
      · rw [hpl] at h1
        rcases fst i h1 h2 with rfl | h1
        · rw [y3 0]; exact Int.le_refl _
        · have := x3 0
          have := y3 0
          rcases I with ⟨_, _, h⟩ | ⟨j, _, _, _, _, h, _⟩
          · have := h i h1 h2; omega
          · have := h i h1 h2; omega
      · rw [hpl] at h1; omega
    · rename_i hx
      with_reducible refine w_lp1 ?_
      have := x3 0
      refine ⟨rfl, b, d, _, rfl, ?_⟩
      rcases I with ⟨h1, h2, h3⟩ | ⟨j, h1, h2, h3, h4, h5, h6, h7⟩
      · refine .inl ⟨h1, h2, fun i a1 a2 => ?_⟩
        rw [hpl] at a1
        rcases fst i a1 a2 with rfl | a1
        · omega
        · exact h3 i a1 a2
      · refine .inr ⟨j, by rw [hpl]; omega, h2, h3, h4, fun i a1 a2 => ?_, fun i a1 a2 => ?_, h7⟩
        · rw [hpl] at a1
          rcases fst i a1 a2 with rfl | a1
          · omega
          · exact h5 i a1 a2
        · rw [hpl] at a1
          rcases fst i a1 (by omega) with rfl | a1
          · omega
          · exact h6 i a1 a2
  · obtain ⟨rfl, b, d, o, rfl, I⟩ := I
    have hpl : ((List.range left.length).reverse).length = left.length := by rw [List.length_reverse, List.length_range]
    rw [hpl] at I
    walk_at "ws"
    refine q d ?_
    have mem : ∀ x ∈ left, ∃ i, i < left.length ∧ left.getD i 0 = x := fun x hx => by
      obtain ⟨i, hi, e⟩ := List.mem_iff_getElem.mp hx
      exact ⟨i, hi, by rw [getD_of (List.getElem?_eq_getElem hi), e]⟩
    rcases I with ⟨_, rfl, h3⟩ | ⟨j, h1, h2, h3, h4, h5, h6, rfl⟩
    · refine .inl ⟨fun x hx => ?_, rfl⟩
      obtain ⟨i, hi, e⟩ := mem x hx
      have := h3 i (by omega) hi
      omega
    · refine .inr ⟨j, h2, by omega, fun x hx => ?_, fun i hi => ?_, rfl⟩
      · obtain ⟨i, hi, e⟩ := mem x hx
        have := h5 i (by omega) hi
        omega
      · have := h6 i (by omega) hi
        omega
end
section
variable {K : R FL.D → Prop} {xs : List Int} {T S : Sto} {row kn l left : List Int} {s : Int} {g g1 g2 : FL.D} {c : String → PySem.Addr}
/-! ### what holds of a right question -/
theorem firstV_of : ∀ {ls : List Look}, (∀ k ∈ ls, badB k = false) → firstV ls = none
  | [], _ => rfl
  | k :: ls, h => by
    rw [firstV_f (h k List.mem_cons_self)]
    exact firstV_of fun k hk => h k (List.mem_cons_of_mem _ hk)
theorem lk51_of (h : Cs row s kn) : firstV (lk51 row s kn) = none := by
  refine firstV_of fun k hk => ?_
  rcases List.mem_append.mp hk with hk | hk
  · rcases List.mem_cons.mp hk with rfl | hk
    · have := h.r1
      exact bad_n (by omega) (by omega)
    · rcases List.mem_append.mp hk with hk | hk
      · obtain ⟨x, hx, rfl⟩ := List.mem_map.mp hk
        have := h.rb x hx
        exact bad_n (by omega) (by omega)
      · rw [List.mem_singleton.mp hk]
        have := h.s1
        exact bad_n (by omega) (by omega)
  · have := h.kl
    rcases List.mem_cons.mp hk with rfl | hk
    · exact bad_n (by omega) (by omega)
    · obtain ⟨x, hx, rfl⟩ := List.mem_map.mp hk
      have := h.kb x hx
      exact bad_n (by omega) (by omega)
theorem cs_of (h : firstV (lk51 row s kn) = none) : Cs row s kn := by
  have f := firstV_none h
  have b0 := bad_f (f (kRow row.length) List.mem_cons_self)
  have b1 := bad_f (f (kSc s) (List.mem_append_left _ (List.mem_cons_of_mem _ (List.mem_append_right _ List.mem_cons_self))))
  have b2 := bad_f (f (kKn kn.length row.length) (List.mem_append_right _ List.mem_cons_self))
  refine ⟨by omega, fun x hx => ?_, b1, by omega, fun x hx => ?_⟩
  · exact bad_f (f (kWo x) (List.mem_append_left _ (List.mem_cons_of_mem _ (List.mem_append_left _ (List.mem_map_of_mem hx)))))
  · exact bad_f (f (kPc x) (List.mem_append_right _ (List.mem_cons_of_mem _ (List.mem_map_of_mem hx))))
theorem leftL_rg : ∀ (row kn : List Int), kn.length = row.length → (List.range row.length).map (fun k => s * row.getD k 0 - kn.getD k 0) = leftL row s kn
  | [], [], _ => rfl
  | x :: row, y :: kn, h => by
    have ih := leftL_rg row kn (Nat.succ.inj h)
    rw [List.length_cons, List.range_succ_eq_map, List.map_cons, List.map_map]
    unfold leftL at ih ⊢
    rw [List.zip_cons_cons, List.map_cons, ← ih]
    rfl
  | [], y :: kn, h => by cases h
  | x :: row, [], h => by cases h
theorem leftL_len (h : kn.length = row.length) : (leftL row s kn).length = row.length := by
  unfold leftL
  rw [List.length_map, List.length_zip]
  omega
theorem leftL_set {x : Int} (h : kn.length = row.length) (h1 : 0 < row.length) : leftL (row.set 0 x) s kn = (leftL row s kn).set 0 (s * x - kn.getD 0 0) := by
  cases row with
  | nil => cases h1
  | cons y row =>
    cases kn with
    | nil => cases h
    | cons z kn => rfl
theorem same_non {k : Nat} : f_l_same (k + 1) [.non, .non] S = .ok (.bl true) S := by
  rw [show f_l_same (k + 1) [.non, .non] S = (g_l_same (f_l_same k) [some .non, some .non, none] S).out from rfl]
  unfold g_l_same
  have t1 : gIsi [] S [.non, .ty "tuple"] = some (.bl false) := by rfl
  have t5 : gIsN false S .non .non = some (.bl true) := by rfl
  simp only [sSeq, sNext, sDrop, sRet, sRetN, sIf, sAsg, gN, fVar, fC, fBin, fUn, fBu, fNil, fCons, fTup, fLst, fB, fIf, fNot, fAnd, fOr, fV, fNotV, fAndV, fOrV, fCall, R.bind, R.bindS, R.of, RS.out, gAdd_int, gSub_int, gLt_int, gLe_int, gGt_int, gGe_int, gNeg_int, gEq_int, gNe_int, gI2C_int, gInt_int, gAbs_int, gLen_lst, gLen_tup, List.getElem?_cons_zero, List.getElem?_cons_succ, List.set_cons_zero, List.set_cons_succ, List.append_nil, if_true, if_false, decide_true, decide_false, Int.reduceEq, Int.reduceLT, Int.reduceLE, Int.reduceNeg, Int.reduceAdd, Int.reduceSub, Bool.not_true, Bool.not_false, reduceIte, Bool.false_eq_true, Option.map_some, Option.bind_some, Nat.reduceAdd, gTupF, gsCons, gsNil, seqOf, lisOf, lstOf, List.length_cons, List.length_nil, t1, t5]
theorem same_ints {k : Nat} {ns : List Int} (hl : ns.length ≤ 1000) : f_l_same (k + 2) [.tup (iD ns), .tup (iD ns)] S = .ok (.bl true) S :=
  same_tup (by rw [List.length_map]; exact hl) fun d hd => by
    obtain ⟨i, _, rfl⟩ := List.mem_map.mp hd
    exact same_int
theorem same_ch {d : FL.D} (h : Chosen left kn d) : f_l_same 6 [d, d] S = .ok (.bl true) S := by
  rcases h with ⟨_, rfl⟩ | ⟨j, _, _, _, _, rfl⟩
  · exact same_non
  · exact same2 same_int same_int
end
section
variable {K : R FL.D → Prop} {xs : List Int} {T S : Sto} {row kn l left : List Int} {s : Int} {g g1 g2 : FL.D} {c : String → PySem.Addr}
/-! ### the answers hold -/
def g_l_answers_hold_t7 (c : String → PySem.Addr) : SF :=
  (sSeq (sSetI (fBin gSub (fC (.int 99)) (fBin gIx (fVar 0) (fC (.int 0)))) (fBin gIx (fVar 5) (fC (.int 0))) (fC (.int 0)))
  (sSeq (sSetI (fBin gSub (fBin gMulA (fVar 1) (fBin gIx (fBin gIx (fVar 5) (fC (.int 0))) (fC (.int 0)))) (fBin gIx (fVar 2) (fC (.int 0)))) (fVar 3) (fC (.int 0)))
  (sSeq (sAsg (fCall f_l_best [] (fCons (fVar 3) (fCons (fVar 2) fNil))) (gN 4))
  (sSeq (sIf (fNot (fB (fCall (f_l_same 6) [] (fCons (fCall (f_l_left c) [] (fCons (fBin gIx (fVar 5) (fC (.int 0))) (fCons (fVar 1) (fCons (fBin gIx (fVar 5) (fC (.int 1))) fNil)))) (fCons (fBu gTuple (fCons (fVar 3) fNil)) fNil))))) (sRet (fC (.bl false))) sNext)
  (sRet (fCall (f_l_same 6) [] (fCons (fCall (f_l_chosen c) [] (fCons (fBin gIx (fVar 5) (fC (.int 0))) (fCons (fVar 1) (fCons (fBin gIx (fVar 5) (fC (.int 1))) fNil)))) (fCons (fVar 4) fNil))))))))
def g_l_answers_hold_t3 (c : String → PySem.Addr) : SF :=
  (sSeq (sFor (iSeq (fLst (fCons (fC (.int 0)) (fCons (fC (.int 1)) fNil)))) (gN 6) (sSeq (sIf (fNot (fB (fCall (f_l_same 6) [] (fCons (fCall (f_l_left c) [] (fCons (fBin gIx (fVar 5) (fC (.int 0))) (fCons (fVar 1) (fCons (fBin gIx (fVar 5) (fC (.int 1))) fNil)))) (fCons (fBu gTuple (fCons (fVar 3) fNil)) fNil))))) (sRet (fC (.bl false))) sNext)
  (sIf (fNot (fB (fCall (f_l_same 6) [] (fCons (fCall (f_l_chosen c) [] (fCons (fBin gIx (fVar 5) (fC (.int 0))) (fCons (fVar 1) (fCons (fBin gIx (fVar 5) (fC (.int 1))) fNil)))) (fCons (fVar 4) fNil))))) (sRet (fC (.bl false))) sNext)))
  (sSeq (sIf (fB (fBin (gEq true) (fVar 5) (fLst (fCons (fVar 0) (fCons (fVar 2) fNil))))) (sRet (fC (.bl false))) sNext)
  (sSeq (sIf (fNot (fB (fCall (f_l_same 6) [] (fCons (fCall (f_l_left c) [] (fCons (fBu gTuple (fCons (fVar 0) fNil)) (fCons (fVar 1) (fCons (fBu gTuple (fCons (fVar 2) fNil)) fNil)))) (fCons (fBu gTuple (fCons (fVar 3) fNil)) fNil))))) (sRet (fC (.bl false))) sNext)
  (sSeq (sIf (fNot (fB (fCall (f_l_same 6) [] (fCons (fCall (f_l_chosen c) [] (fCons (fBu gTuple (fCons (fVar 0) fNil)) (fCons (fVar 1) (fCons (fBu gTuple (fCons (fVar 2) fNil)) fNil)))) (fCons (fVar 4) fNil))))) (sRet (fC (.bl false))) sNext)
  (g_l_answers_hold_t7 c)))))
theorem g_l_answers_hold_eq {c : String → PySem.Addr} : g_l_answers_hold c = (sSeq (sAsg (fLcL (iRng gRng1 (fCons (fBu gLen (fCons (fVar 0) fNil)) fNil)) (gN 6) fYes (fBin gSub (fBin gMulA (fVar 1) (fBin gIx (fVar 0) (fVar 6))) (fBin gIx (fVar 2) (fVar 6))) [6]) (gN 3))
  (sSeq (sAsg (fCall f_l_best [] (fCons (fVar 3) (fCons (fVar 2) fNil))) (gN 4))
  (sSeq (sAsg (fLst (fCons (fBuL gList (fCons (fVar 0) fNil)) (fCons (fBuL gList (fCons (fVar 2) fNil)) fNil))) (gN 5))
  (g_l_answers_hold_t3 c)))) := rfl
theorem w_runT {gg : SF} {n : Nat} {ds : List FL.D} {e : FL.Env} (he : env0 n ds = e) (q : W (gg e S) (Of K)) : W (runF gg n ds S) K := by
  subst he
  exact q
def SA (S : Sto) (L R N : List Int) : Sto := S ++ [.lst (iD L), .lst (iD R), .lst (iD N)]
theorem SA0 {L R N : List Int} : (SA S L R N)[S.length]? = some (.lst (iD L)) := get_app0 _ _
theorem SA1 {L R N : List Int} : (SA S L R N)[S.length + 1]? = some (.lst (iD R)) := get_app _ _ 1
theorem SA2 {L R N : List Int} : (SA S L R N)[S.length + 2]? = some (.lst (iD N)) := get_app _ _ 2
theorem gv {m : Nat} {l : List Int} (h : S[m]? = some (.lst (iD l))) : Giv S (.loc m) (iD l) := .inr (.inr ⟨m, rfl, h⟩)
abbrev eA (row : List Int) (s : Int) (kn : List Int) (n : Nat) (d : FL.D) (o6 : Option FL.D) : FL.Env := [some (lD row), some (.int s), some (lD kn), some (.loc n), some d, some (.lst [.loc (n + 1), .loc (n + 2)]), o6]
theorem lw7 {d : FL.D} {o6 : Option FL.D} (C : Cs row s kn) (q : ∀ L R N, W (.ok (.bl true) (SA S L R N)) K) : W (g_l_answers_hold_t7 c (eA row s kn S.length d o6) (SA S (leftL row s kn) row kn)) (Of K) := by
  unfold g_l_answers_hold_t7
  have c1 := C.r1
  have c3 := C.s1
  have c4 := C.kl
  have hn := lk51_of C
  obtain ⟨r0, hr0⟩ : ∃ r0, row.getD 0 0 = r0 := ⟨_, rfl⟩
  have hr0m : 0 ≤ r0 ∧ r0 ≤ 99 := by rw [← hr0]; exact C.rb _ (getD_mem (by omega))
  have C2 : Cs (row.set 0 (99 - r0)) s kn := by
    refine ⟨by rw [List.length_set]; exact c1, fun x hx => ?_, c3, by rw [List.length_set]; exact c4, C.kb⟩
    rcases List.mem_or_eq_of_mem_set hx with hx | rfl
    · exact C.rb x hx
    · omega
  have hn2 := lk51_of C2
  have ll := leftL_len (s := s) c4
  have ls := leftL_set (s := s) (x := 99 - r0) c4 (by omega)
  have hk2 : kn.length = (leftL (row.set 0 (99 - r0)) s kn).length := by rw [ls, List.length_set, ll, c4]
  walk_at "ws"
  rename_i x x1 x2 x3
  obtain rfl : r0 = x := by rw [← hr0]; exact x3 0
  refine w_siM (enc := FL.D.int) (l := row) (x := 99 - r0) (S' := SA S (leftL row s kn) (row.set 0 (99 - r0)) kn) SA1 rfl (by omega) (by omega) (set_app _ _ 1 _) ?_
  walk_at "ws"
  refine w_ixG (gv SA1) (by omega) (by rw [List.length_set]; omega) fun y y1 y2 y3 => ?_
  obtain rfl : y = 99 - r0 := by
    have h := y3 0
    rw [← h]
    cases row with
    | nil => exact absurd c1.1 (by simp)
    | cons z row => rfl
  walk_at "ws"
  rename_i z z1 z2 z3
  have ez : kn.getD 0 0 = z := z3 0
  refine w_siM (enc := FL.D.int) (l := leftL row s kn) (x := s * (99 - r0) - z) (S' := SA S (leftL (row.set 0 (99 - r0)) s kn) (row.set 0 (99 - r0)) kn) SA0 rfl (by omega) (by omega) ((set_app0 _ _ _).trans (by rw [ls, ez]; rfl)) ?_
  walk_at "ws"
  refine r_best (gv SA0) (by omega) hk2 fun d2 hd2 => ?_
  walk_at "ws"
  refine r_left (gv SA1) (gv SA2) (by rw [List.length_set]; omega) ?_
  rw [hn2]
  show W (R.ok (FL.D.tup (iD (leftL (row.set 0 (99 - r0)) s kn))) _) _
  have ll2 : (leftL (row.set 0 (99 - r0)) s kn).length ≤ 1000 := by omega
  walk_at "ws"
  refine w_tplG (ds := iD (leftL (row.set 0 (99 - r0)) s kn)) (gv SA0) ?_
  walk_at "ws"
  refine w_eq (same_ints (k := 4) (by omega)) ?_
  walk_at "ws"
  refine r_chosen (gv SA1) (gv SA2) (by rw [List.length_set]; omega) fun d3 hd3 => ?_
  obtain rfl := (hd3 hn2).uniq hd2
  rw [hn2]
  show W (R.ok d3 _) _
  walk_at "ws"
  refine w_eq (same_ch hd2) ?_
  walk_at "ws"
  exact q _ _ _
theorem lw3 {d : FL.D} (C : Cs row s kn) (hd : Chosen (leftL row s kn) kn d) (q : ∀ L R N, W (.ok (.bl true) (SA S L R N)) K) : W (g_l_answers_hold_t3 c (eA row s kn S.length d none) (SA S (leftL row s kn) row kn)) (Of K) := by
  unfold g_l_answers_hold_t3
  have c1 := C.r1
  have c3 := C.s1
  have c4 := C.kl
  have hn := lk51_of C
  have ll := leftL_len (s := s) c4
  walk_at "ws"
  refine w_for_fix (enc := FL.D.int) (l := [0, 1]) (fun pre post env S' => S' = SA S (leftL row s kn) row kn ∧ ∃ o, env = eA row s kn S.length d o) ⟨rfl, _, rfl⟩ (fun pre k post env S' e I => ?_) fun env S' I => ?_
  · obtain ⟨rfl, o, rfl⟩ := I
    walk_at "ws"
    refine r_left (gv SA1) (gv SA2) (by omega) ?_
    rw [hn]
    show W (R.ok (FL.D.tup (iD (leftL row s kn))) _) _
    walk_at "ws"
    refine w_tplG (ds := iD (leftL row s kn)) (gv SA0) ?_
    walk_at "ws"
    refine w_eq (same_ints (k := 4) (by omega)) ?_
    walk_at "ws"
    refine r_chosen (gv SA1) (gv SA2) (by omega) fun d2 hd2 => ?_
    obtain rfl := (hd2 hn).uniq hd
    rw [hn]
    show W (R.ok d2 _) _
    walk_at "ws"
    refine w_eq (same_ch hd) ?_
    walk_at "ws"
    with_reducible refine w_lp1 ?_
    exact ⟨rfl, _, rfl⟩
  · obtain ⟨rfl, o, rfl⟩ := I
    walk_at "ws"
    refine w_eqH (neg := true) (py_loc SA1) (py_loc SA2) ?_
    show W (R.ok (FL.D.bl false) _) _
    walk_at "ws"
    refine r_left (row := row) (kn := kn) (.inr (.inl rfl)) (.inr (.inl rfl)) (by omega) ?_
    rw [hn]
    show W (R.ok (FL.D.tup (iD (leftL row s kn))) _) _
    walk_at "ws"
    refine w_tplG (ds := iD (leftL row s kn)) (gv SA0) ?_
    walk_at "ws"
    refine w_eq (same_ints (k := 4) (by omega)) ?_
    walk_at "ws"
    refine r_chosen (row := row) (kn := kn) (.inr (.inl rfl)) (.inr (.inl rfl)) (by omega) fun d2 hd2 => ?_
    obtain rfl := (hd2 hn).uniq hd
    rw [hn]
    show W (R.ok d2 _) _
    walk_at "ws"
    refine w_eq (same_ch hd) ?_
    walk_at "ws"
    exact lw7 C q
theorem r_answers (C : Cs row s kn) (hS : S.all (Cell.plain S.length) = true) (q : W (.ok (.bl true) S) K) : W (m_l_answers_hold c [lD row, .int s, lD kn] S) K := by
  refine w_fz ?_
  have fin : ∀ L R N, W (.ok (.bl true) (SA S L R N)) (Fz S K) := fun L R N => w_fz1 hS (frzV_plain (by unfold FL.D.plain; rfl)) q
  unfold f_l_answers_hold
  refine w_runT (e := [some (lD row), some (.int s), some (lD kn), none, none, none, none]) rfl ?_
  rw [g_l_answers_hold_eq]
  have c1 := C.r1
  have c3 := C.s1
  have c4 := C.kl
  walk_at "ws"
  rw [Int.toNat_natCast]
  refine w_lcM (enc := fun k : Nat => FL.D.int (k : Int)) (enc2 := FL.D.int) (l := List.range row.length) (fun k => s * row.getD k 0 - kn.getD k 0) (by rw [List.length_range]; omega) (fun k hk => ?_) ?_
  · have hk := List.mem_range.mp hk
    walk_at "ws"
    rename_i a a1 a2 a3 b b1 b2 b3
    rw [a3 0, b3 0]
    exact w_id rfl
  rw [leftL_rg row kn c4]
  walk_at "ws"
  refine r_best (gv (get_app0 _ _)) (by rw [leftL_len c4]; omega) (by rw [leftL_len c4]; exact c4) fun d hd => ?_
  walk_at "ws"
  exact lw3 C hd fin
end
section
variable {K : R FL.D → Prop} {xs : List Int} {T S : Sto} {row kn l left : List Int} {s : Int} {g g1 g2 : FL.D} {c : String → PySem.Addr}
/-! ### odd questions -/
theorem good51 : ∀ r, firstV (lk51 row s kn) = some r → goodW r.1 := fun r hr => by
  obtain ⟨k, hk, e⟩ := firstV_mem hr
  have : k.1 ∈ ["row", "worth", "scale", "known", "price"] := by
    rcases List.mem_append.mp hk with hk | hk
    · rcases List.mem_cons.mp hk with rfl | hk
      · exact List.mem_cons_self
      · rcases List.mem_append.mp hk with hk | hk
        · obtain ⟨x, _, rfl⟩ := List.mem_map.mp hk
          simp
        · rw [List.mem_singleton.mp hk]; simp
    · rcases List.mem_cons.mp hk with rfl | hk
      · simp
      · obtain ⟨x, _, rfl⟩ := List.mem_map.mp hk
        simp
  rw [e] at this
  simp only [List.mem_cons, List.not_mem_nil, or_false] at this
  unfold goodW
  rcases this with e | e | e | e | e <;> rw [e] <;> decide +kernel
theorem r_refused {r : String × Int} (hg : goodW r.1) (q : W (.ok (.bl true) S) K) : W (f_l_refused [.lst [wordD r.1, .int r.2, .bl true], wordD r.1, .int r.2] S) K := by
  show W (g_l_refused [some (.lst [wordD r.1, .int r.2, .bl true]), some (wordD r.1), some (.int r.2)] S) (Of K)
  unfold g_l_refused
  have t1 : gIsi [] S [.lst [wordD r.1, .int r.2, .bl true], .ty "list"] = some (.bl true) := by rfl
  walk_at "ws"
  · rename_i h
    exact absurd rfl h
  refine w_eq (same_word hg) ?_
  walk_at "ws"
  refine w_eq same_int ?_
  walk_at "ws"
  refine w_isB ?_
  walk_at "ws"
  exact q
theorem w_runT2 {gg : SF} {n : Nat} {ds : List FL.D} {e : FL.Env} (he : env0 n ds = e) (q : W (gg e S) (Of K)) : W (runF gg n ds S) K := by
  subst he
  exact q
theorem r_odd (hr : row.length ≤ 100) (hk : kn.length ≤ 100) (hS : S.all (Cell.plain S.length) = true) (q : W (.ok (.bl true) S) K) : W (f_l_odd_holds c [lD row, .int s, lD kn] S) K := by
  unfold f_l_odd_holds
  refine w_runT2 (e := [some (lD row), some (.int s), some (lD kn), none, none]) rfl ?_
  unfold g_l_odd_holds
  walk_at "ws"
  refine r_wrong hr hk ?_
  cases hw : firstV (lk51 row s kn) with
  | none =>
    show W (R.ok FL.D.non _) _
    walk_at "ws"
    refine r_answers (cs_of hw) hS ?_
    walk_at "ws"
    exact q
  | some r =>
    show W (R.ok (FL.D.tup [wordD r.1, .int r.2]) _) _
    have hg := good51 r hw
    walk_at "ws"
    refine r_left (row := row) (kn := kn) (.inl rfl) (.inl rfl) hr ?_
    rw [hw]
    show W (R.ok (FL.D.lst [wordD r.1, .int r.2, .bl true]) _) _
    walk_at "ws"
    refine r_refused hg ?_
    walk_at "ws"
    refine r_chosen (row := row) (kn := kn) (.inl rfl) (.inl rfl) hr fun d hd => ?_
    rw [hw]
    show W (R.ok (FL.D.lst [wordD r.1, .int r.2, .bl true]) _) _
    walk_at "ws"
    refine r_refused hg ?_
    walk_at "ws"
    refine w_eqH (neg := false) (py_lst1 row) (py_lst1 kn) ?_
    show W (R.ok (FL.D.bl true) _) _
    walk_at "ws"
    exact q
end
section
variable {K : R FL.D → Prop} {xs : List Int} {T S : Sto} {row kn l left : List Int} {s : Int} {g g1 g2 : FL.D} {c : String → PySem.Addr}
/-! ### bent -/
theorem w_neC {m : Nat} {l : List Int} (hc : S[m]? = some (.lst (iD l))) (q : W (.ok (.bl (!decide (l = []))) S) K) : W (R.of (gEq true S (.loc m) (.lst [])) S) K := by
  refine w_of (gEq_py (py_loc hc) (py_iD S []) (sh_iD l) (sh_iD [])) ?_
  show W (.ok (.bl (!PySem.PyData.eqvAll (l.map .int) (([] : List Int).map .int))) S) K
  rw [eqvI]
  exact q
theorem iD_app (a b : List Int) : iD a ++ iD b = iD (a ++ b) := (List.map_append (f := FL.D.int) (l₁ := a) (l₂ := b)).symm
theorem frz_iD {n m k : Nat} {S3 : Sto} {l : List Int} (h1 : n ≤ m) (h2 : S3[m]? = some (.lst (iD l))) : frzV n S3 (k + 1) (.loc m) = some (lD l) := frzV_loc h1 h2 (frzL_plain (pl_ints _ _))
theorem frz_lD {n k : Nat} {S3 : Sto} {l : List Int} : frzV n S3 k (lD l) = some (lD l) := frzV_plain (by unfold FL.D.plain; exact pl_iD _ _)
theorem fin3 {L : Sto} {row' kn' : List Int} {s' : Int} (hS : S.all (Cell.plain S.length) = true) (h1 : frzV S.length (S ++ L) 5 g1 = some (lD row')) (h2 : frzV S.length (S ++ L) 5 g2 = some (lD kn')) (q : W (.ok (csD row' s' kn') S) K) : W (R.ok (.lst [g1, .int s', g2]) (S ++ L)) (Fz S K) :=
  w_fz1 hS (frzV_lst (frzL_cons h1 (frzL_cons (frzV_plain pl_int) (frzL_cons h2 rfl)))) q
local macro_rules | `(tactic| walk_at "call") => `(tactic| ((with_reducible refine w_neC (l := ?l) ?h0 ?q); (case h0 => walk_at "get")))
local macro_rules | `(tactic| walk_at "call") => `(tactic| ((with_reducible refine w_lenG (ds := ?ds) ?h0 ?q); (case h0 => exact .inr (.inr ⟨_, rfl, by walk_at "get"⟩))))
theorem mod_at {a : Int} {l : List Int} (h : ¬ l = []) : 0 ≤ a % ((iD l).length : Int) ∧ a % ((iD l).length : Int) < (l.length : Int) := by
  have hl := List.length_pos_iff.mpr h
  rw [List.length_map]
  exact ⟨Int.emod_nonneg _ (by omega), Int.emod_lt_of_pos _ (by omega)⟩
theorem w_slC {m : Nat} {l : List Int} {lo hi : Option Int} (hc : S[m]? = some (.lst (iD l))) (q : (cutL l lo hi).length ≤ l.length → W (R.ok (lD (cutL l lo hi)) S) K) : W (R.of (gSl S (.loc m) lo hi) S) K := by
  refine w_of (d := lD (cutL l lo hi)) ?_ (q cutL_len)
  show (match gSlL S (.loc m) lo hi with
    | some z => some z
    | none => gSlS S (.loc m) lo hi) = _
  have e : gSlL S (.loc m) lo hi = some (lD (cutL l lo hi)) := by
    unfold gSlL
    show ((Cell.lst? S[m]?).map fun xs => FL.D.lst (cutD xs lo hi)) = _
    rw [hc]
    show some (FL.D.lst (cutD (iD l) lo hi)) = _
    rw [cutD_map]
  rw [e]
theorem r_bent {way at_ far : Int} (hS : S.all (Cell.plain S.length) = true) (hr : row.length ≤ 100) (hk : kn.length ≤ 100) (q : ∀ row' s' kn', row'.length ≤ row.length + 7 → kn'.length ≤ kn.length + 1 → W (.ok (csD row' s' kn') S) K) : W (m_l_bent [csD row s kn, .int way, .int at_, .int far] S) K := by
  refine w_fz ?_
  unfold f_l_bent
  refine w_runT2 (e := [some (csD row s kn), some (.int way), some (.int at_), some (.int far), none, none, none]) rfl ?_
  unfold g_l_bent
  have g0 : ∀ {L : Sto} {x : List Int}, (S ++ .lst (iD x) :: L)[S.length]? = some (.lst (iD x)) := get_app0 _ _
  have g1 : ∀ {L : Sto} {x y : Cell} {z : List Int}, y = .lst (iD z) → (S ++ x :: y :: L)[S.length + 1]? = some (.lst (iD z)) := fun h => by rw [h]; exact get_app _ _ 1
  have g2 : ∀ {L : Sto} {x y w : Cell} {z : List Int}, w = .lst (iD z) → (S ++ x :: y :: w :: L)[S.length + 2]? = some (.lst (iD z)) := fun h => by rw [h]; exact get_app _ _ 2
  walk_at "ws"
  all_goals try first
    | exact fin3 hS (frz_iD (Nat.le_refl _) g0) (frz_iD (by omega) (g1 rfl)) (q _ _ _ (by omega) (by omega))
    | exact fin3 hS (frz_iD (l := []) (by omega) (g2 rfl)) (frz_iD (by omega) (g1 rfl)) (q _ _ _ (Nat.zero_le _) (by omega))
    | exact fin3 hS (frz_iD (by omega) (g2 (congrArg Cell.lst (iD_app row [far, 1, 2, 3, 4, 5, 6])))) (frz_iD (by omega) (g1 rfl)) (q _ _ _ (by rw [List.length_append]; exact Nat.le_refl _) (by omega))
    | exact fin3 hS (frz_iD (Nat.le_refl _) g0) (frz_iD (by omega) (g2 (congrArg Cell.lst (iD_app kn [far])))) (q _ _ _ (by omega) (by rw [List.length_append]; exact Nat.le_refl _))
  · have hm := mod_at (a := at_) (l := row) (by assumption)
    refine w_mod (by rw [List.length_map]; exact_mod_cast List.length_pos_iff.mpr (by assumption)) ?_
    refine w_siM (enc := FL.D.int) (l := row) (x := -1 - far) g0 rfl hm.1 hm.2 (set_app0 _ _ _) ?_
    walk_at "ws"
    exact fin3 hS (frz_iD (Nat.le_refl _) g0) (frz_iD (by omega) (g1 rfl)) (q _ _ _ (by rw [List.length_set]; omega) (by omega))
  · have hm := mod_at (a := at_) (l := row) (by assumption)
    refine w_mod (by rw [List.length_map]; exact_mod_cast List.length_pos_iff.mpr (by assumption)) ?_
    refine w_siM (enc := FL.D.int) (l := row) (x := 100 + far) g0 rfl hm.1 hm.2 (set_app0 _ _ _) ?_
    walk_at "ws"
    exact fin3 hS (frz_iD (Nat.le_refl _) g0) (frz_iD (by omega) (g1 rfl)) (q _ _ _ (by rw [List.length_set]; omega) (by omega))
  · refine w_slC (g1 rfl) fun hc => ?_
    walk_at "ws"
    exact fin3 hS (frz_iD (Nat.le_refl _) g0) frz_lD (q _ _ _ (by omega) (by omega))
  · have hm := mod_at (a := at_) (l := kn) (by assumption)
    refine w_mod (by rw [List.length_map]; exact_mod_cast List.length_pos_iff.mpr (by assumption)) ?_
    refine w_siM (enc := FL.D.int) (l := kn) (x := -1 - far) (g1 rfl) rfl hm.1 hm.2 (set_app _ _ 1 _) ?_
    walk_at "ws"
    exact fin3 hS (frz_iD (Nat.le_refl _) g0) (frz_iD (by omega) (g1 rfl)) (q _ _ _ (by omega) (by rw [List.length_set]; omega))
  · have hm := mod_at (a := at_) (l := kn) (by assumption)
    refine w_mod (by rw [List.length_map]; exact_mod_cast List.length_pos_iff.mpr (by assumption)) ?_
    refine w_siM (enc := FL.D.int) (l := kn) (x := 10000 + far) (g1 rfl) rfl hm.1 hm.2 (set_app _ _ 1 _) ?_
    walk_at "ws"
    exact fin3 hS (frz_iD (Nat.le_refl _) g0) (frz_iD (by omega) (g1 rfl)) (q _ _ _ (by omega) (by rw [List.length_set]; omega))
end
section
variable {K : R FL.D → Prop} {xs : List Int} {T S : Sto} {row kn l left : List Int} {s : Int} {g g1 g2 : FL.D} {c : String → PySem.Addr}
/-! ### the law -/
local macro_rules | `(tactic| walk_at "call") => `(tactic| ((with_reducible refine r_draw ?h0 ?h1 ?h2 (fun _ _ _ _ _ => ?q)); (case h0 => walk_at "side"); (case h1 => walk_at "side"); (case h2 => walk_at "side")))
theorem r_refusals (hx : xs.length ≤ 63) (hT : ∀ k, T.all (Cell.plain k) = true) (hr : row.length ≤ 6) (hk : kn.length ≤ 6) (q : ∀ ws, ws.length ≤ 63 → W (.ok (.bl true) (pool ws T)) K) : W (f_l_refusals_hold c [.loc 0, csD row s kn] (pool xs T)) K := by
  unfold f_l_refusals_hold
  refine w_runT2 (e := [some (.loc 0), some (csD row s kn), none, none, none]) rfl ?_
  unfold g_l_refusals_hold
  have hS : ∀ ws : List Int, (pool ws T).all (Cell.plain (pool ws T).length) = true := fun ws => pool_all (hT _)
  walk_at "ws"
  refine w_for_rng0 (n := 11) (fun k env S' => ∃ ws o2 o3 o4, ws.length ≤ 63 ∧ env = [some (.loc 0), some (csD row s kn), o2, o3, o4] ∧ S' = pool ws T) ⟨xs, none, none, none, hx, rfl, rfl⟩ (fun k env S' hk2 I => ?_) fun env S' I => ?_
  · obtain ⟨ws, o2, o3, o4, hw, rfl, rfl⟩ := I
    walk_at "ws"
    refine r_bent (hS _) (by omega) (by omega) fun row1 s1 kn1 l1 l2 => ?_
    walk_at "ws"
    refine r_odd (by omega) (by omega) (hS _) ?_
    walk_at "ws"
    refine r_bent (hS _) (by omega) (by omega) fun row2 s2 kn2 l3 l4 => ?_
    walk_at "ws"
    refine r_odd (by omega) (by omega) (hS _) ?_
    walk_at "ws"
    with_reducible refine w_lp1 ?_
    exact ⟨_, _, _, _, by assumption, rfl, rfl⟩
  · obtain ⟨ws, o2, o3, o4, hw, rfl, rfl⟩ := I
    walk_at "ws"
    exact q ws hw
def KLaw : R FL.D → Prop := fun r => ∃ S', r = .ok (.bl true) S'
def g_law_t2 (c : String → PySem.Addr) : SF :=
  (sSeq (sAsg (fLc (iSeq (fLst (fCons (fC (.int 0)) (fCons (fC (.int 5)) (fCons (fC (.int 2)) (fCons (fC (.int 3)) fNil)))))) (gN 5) fYes (fCall m_l_case [] (fCons (fVar 1) (fCons (fVar 5) fNil))) [5]) (gN 2))
  (sSeq (sFor (iSeq (fBin gAdd (fVar 2) (fLst (fCons (fBin gIx (fVar 2) (fC (.int 0))) fNil)))) (gN 3) (sIf (fNot (fB (fCall (m_l_answers_hold c) [] (fCons (fBin gIx (fVar 3) (fC (.int 0))) (fCons (fBin gIx (fVar 3) (fC (.int 1))) (fCons (fBin gIx (fVar 3) (fC (.int 2))) fNil)))))) (sRet (fC (.bl false))) sNext))
  (sRet (fAndV (fCall (f_l_refusals_hold c) [] (fCons (fVar 1) (fCons (fBin gIx (fVar 2) (fC (.int 1))) fNil))) (fCall (f_l_refusals_hold c) [] (fCons (fVar 1) (fCons (fBin gIx (fVar 2) (fC (.int 0))) fNil)))))))
theorem g_law_eq {c : String → PySem.Addr} : g_law c = (sSeq (sAsg (fBu (fun S ds => (gList S ds).map .lst) (fCons (fSlG gSl (fVar 0) fNoP (fPart (fC (.int 63)))) fNil)) (gN 0))
  (sSeq (sAsg (fLcL (iRevD (fVar 0)) (gN 4) fYes (fBu gAbs (fCons (fVar 4) fNil)) [4]) (gN 1))
  (g_law_t2 c))) := rfl
theorem lw2 {sc : FL.D} (hx : xs.length ≤ 63) : W (g_law_t2 c [some sc, some (.loc 0), none, none, none, none] (pool xs [])) (Of KLaw) := by
  unfold g_law_t2
  walk_at "ws"
  refine w_lcI (enc := FL.D.int) (l := [0, 5, 2, 3]) (fun pre post acc S' => ∃ (cs : List (List Int × Int × List Int)) (ws : List Int), acc = cs.map (fun p => csD p.1 p.2.1 p.2.2) ∧ cs.length = pre.length ∧ (∀ p ∈ cs, Cs p.1 p.2.1 p.2.2) ∧ ws.length ≤ 63 ∧ S' = pool ws []) (by show 4 ≤ _; omega) ⟨[], xs, rfl, rfl, (fun p h => by cases h), hx, rfl⟩ (fun pre k post acc S' e ha I => ?_) fun acc S' I => ?_
  · obtain ⟨cs, ws, rfl, h1, h2, h3, rfl⟩ := I
    have hk : 0 ≤ k ∧ k ≤ 10 := by
      have : k ∈ ([0, 5, 2, 3] : List Int) := by rw [← e]; exact List.mem_append_right _ List.mem_cons_self
      simp only [List.mem_cons, List.not_mem_nil, or_false] at this
      omega
    walk_at "ws"
    refine r_case h3 hk rfl fun row s kn ys C hy => ?_
    walk_at "ws"
    refine ⟨cs ++ [(row, s, kn)], ys, by rw [List.map_append]; rfl, by rw [List.length_append, List.length_append, h1]; rfl, fun p hp => ?_, hy, rfl⟩
    rcases List.mem_append.mp hp with hp | hp
    · exact h2 p hp
    · rw [List.mem_singleton.mp hp]; exact C
  · obtain ⟨cs, ws, rfl, h1, h2, h3, rfl⟩ := I
    have hl4 : cs.length = 4 := h1
    have hS : (pool ws []).all (Cell.plain (pool ws []).length) = true := pool_all rfl
    walk_at "ws"
    rename_i p0 hp0 p0a p0b
    refine w_for_fix (enc := fun p : List Int × Int × List Int => csD p.1 p.2.1 p.2.2) (l := cs ++ [p0]) (fun pre post env S' => S' = pool ws [] ∧ ∃ o3, env = [some sc, some (.loc 0), some (.lst (cs.map fun p => csD p.1 p.2.1 p.2.2)), o3, none, none]) ⟨rfl, _, rfl⟩ (fun pre p post env S' e I => ?_) fun env S' I => ?_
    · obtain ⟨rfl, o3, rfl⟩ := I
      have C : Cs p.1 p.2.1 p.2.2 := by
        have hm : p ∈ cs ++ [p0] := by rw [← e]; exact List.mem_append_right _ List.mem_cons_self
        rcases List.mem_append.mp hm with hm | hm
        · exact h2 p hm
        · rw [List.mem_singleton.mp hm]; exact h2 _ hp0
      walk_at "ws"
      with_reducible refine r_answers C hS ?_
      walk_at "ws"
      with_reducible refine w_lp1 ?_
      exact ⟨rfl, _, rfl⟩
    · obtain ⟨rfl, o3, rfl⟩ := I
      walk_at "ws"
      rename_i p1 hp1 p1a p1b
      have C1 := h2 p1 hp1
      have a1 := C1.r1
      have a2 := C1.kl
      refine r_refusals h3 (fun _ => rfl) (by omega) (by omega) fun ws2 hw2 => ?_
      walk_at "ws"
      rename_i p2 hp2 p2a p2b
      have C2 := h2 p2 hp2
      have a3 := C2.r1
      have a4 := C2.kl
      refine r_refusals hw2 (fun _ => rfl) (by omega) (by omega) fun ws3 hw3 => ?_
      walk_at "ws"
      exact ⟨_, rfl⟩
theorem e_law {ns : List Int} (hn : ns.length ≤ 63) : ∃ S', f_law c [.fls (iD ns)] [] = .ok (.bl true) S' := by
  show W (f_law c [.fls (iD ns)] []) KLaw
  unfold f_law
  refine w_runT2 (e := [some (.fls (iD ns)), none, none, none, none, none]) rfl ?_
  rw [g_law_eq]
  walk_at "ws"
  rename_i hc
  refine w_iRevD ?_
  walk_at "ws"
  refine w_srcRevL (enc := FL.D.int) ?_
  refine w_lcM (enc := FL.D.int) (enc2 := FL.D.int) (fun i : Int => if i < 0 then -i else i) (by rw [List.length_reverse]; omega) (fun x hx => ?_) ?_
  · walk_at "ws"
    exact w_id rfl
  · have hl : ((cutL ns none (some 63)).reverse.map fun i : Int => if i < 0 then -i else i).length ≤ 63 := by rw [List.length_map, List.length_reverse]; omega
    generalize ((cutL ns none (some 63)).reverse.map fun i : Int => if i < 0 then -i else i) = xs at hl
    walk_at "ws"
    exact lw2 hl
end
end K51
theorem PySem.Challenge.cw_heldbest_k51_choosing_holds : PySem.Challenge.rw_heldbest_k51_choosing.Holds := by
  exact K51.end0 fun _ _ hn => K51.e_law hn
