import PyProof.Rows.All
import Wide.All
import OpenK.AllK
import Wide.FinOn
import HandS.ForMost
import HandS.ForExc
import HandS.Wide
import HandS.SetBool
import HandS.Dict
import HandS.ExcValue
import HandS.TupAny
import HandS.WideMore
import HandS.WideBits
import HandS.Deep
import HandS.SortInts
import HandS.More
import HandS.Conv
import HandS.Flow
import HandS.IsInst
import HandS.TupLe
import HandS.Rev
import HandS.Zip
import HandS.Small
import KE.DataMinMax
import PyProof.EnumMake
import PyProof.TupleIter
import KE.GoesMore
import KE.GoesNew
import KE.SortData
import HandS.SetFor
import HandS.Strs
import HandS.Set
import HandS.TryOnly
import HandS.TupSets
import HandS.Style
import PyProof.StrBlock2
import KE.RegKIsAll
import HandS.ExcIs
import HandS.ExcOwn
import PyProof.LongRange
import PyProof.Rows.SortShellAny
import PyProof.SumWalkG
import HandS.TupMul
import HandS.Text
import HandS.Sort
import KE.KDictZip
import HandS.HotCalls
import HandS.Base
import HandS.Call
import HandS.Ends
import HandS.Words
import HandS.Exc
import HandS.Head0
import HandS.Head1
import HandS.Head2
import HandS.HeadHook1
import HandS.HeadEnd
import PySem.Challenge.RW_shungrow_k01_rules_known
set_option Elab.async false
set_option linter.all false
set_option maxRecDepth 100000
set_option maxHeartbeats 4000000
noncomputable section
namespace HX
open PySem PySem.Spec PySem.Calls PySem.W PyProof.Rows L2
inductive Lit where
  | non | bl (b : Bool) | int (i : Int) | str (x : Str) | tup (xs : List Lit)
/-- the items of a tuple, one by one -/
def litAll (f : Lit → Value → Bool) : List Lit → List Value → Bool
  | [], [] => true
  | t :: ts, u :: us => f t u && litAll f ts us
  | _, _ => false
def litA (t : Lit) (u : Value) : Bool := match t with
  | .non => (match u with | .none => true | _ => false)
  | .bl b => (match u with | .bool c => b == c | _ => false)
  | .int i => (match u with | .int j _ => decide (i = j) | _ => false)
  | .str x => (match u with | .str y _ => decide (x = y) | _ => false)
  | .tup _ => false
def litB (K : PySem.W.Frag) : Nat → Lit → Value → Bool
  | 0, t, u => litA t u
  | n + 1, t, u => match t with
    | .tup ts => (match u with
      | .ref a => (match K.lookup a with
        | some ⟨.type c, _, .seq its _, _⟩ => decide (c = "tuple") && (decide (its.size ≤ 1000) && litAll (litB K n) ts its.toList)
        | _ => false)
      | _ => false)
    | _ => litA t u
/-- the module's name x is this constant -/
def litG (x : Str) (t : Lit) (K : PySem.W.Frag) : Bool := match PySem.W.nsIn K mainGlobals x with
  | some (some u) => litB K 4 t u
  | _ => false
section
variable {K : PySem.W.Frag}
/-- a def, where it stands: its name, its place's qualified name, its row -/
def dOf (x : Str) (m : Option Str) (name qual : Str) (st : Stmt) : He.FnD := ⟨(x, m), name, qual, defArgs st, defBody st, defScope st⟩
def fnB (K : PySem.W.Frag) (d : He.FnD) : Bool := (match d.at_.2 with
  | none => He.eqO (PySem.W.nsIn K mainGlobals d.at_.1) (some (some (.ref (He.fAd K d.at_))))
  | some m => He.eqO (PySem.W.findIn K (.ref (He.ga K d.at_.1)) m) (some (some (.ref (He.fAd K d.at_)))) && PySem.W.isFn K (.ref (He.fAd K d.at_))) && (PySem.W.keepIn K (.ref (He.fAd K d.at_)) && (He.Fa.code d.at_ d.qual).ok K)
abbrev Fc : Type := PySem.W.Frag → Bool
def obsH (fc : List Fc) (fn : List He.FnD) (K : PySem.W.Frag) : He.Al := ((fc.all fun f => f K) && fn.all fun d => fnB K d, fn.map fun d => He.fnObs K d.at_)
def SaysH (fc : List Fc) (fn : List He.FnD) (K : PySem.W.Frag) : Prop := obsH fc fn K = He.valE fn
def hookH (as : List Addr) (fc : List Fc) (fn : List He.FnD) : PySem.W.Hook where
  α := He.Al
  obs := fun s => obsH fc fn (He.frG s.heap.get? as)
  val := fun _ => He.valE fn
  says := fun _ h => ∃ K : PySem.W.Frag, K.In h ∧ SaysH fc fn K
  of := fun _ _ e => ⟨_, He.frG_in, e⟩
  keeps := fun _ _ _ ⟨K, hK, c⟩ k => ⟨K, PySem.W.Frag.In.keeps hK k, c⟩
def obH (as : List Addr) (fc : List Fc) (fn : List He.FnD) (s : PySem.W.SharedT) : He.Al := obsH fc fn (He.frG (HandSHeadRun.getT s) as)
theorem obH_eq {as : List Addr} {fc : List Fc} {fn : List He.FnD} (s : PySem.W.SharedT) : obH as fc fn s = (hookH as fc fn).obs s.abs := by
  have e : HandSHeadRun.getT s = s.abs.heap.get? := funext (HandSHeadRun.getT_eq s)
  show obsH fc fn (He.frG (HandSHeadRun.getT s) as) = obsH fc fn (He.frG s.abs.heap.get? as)
  rw [e]
section
variable {fc : List Fc} {fn : List He.FnD}
theorem SaysH.fact (c : SaysH fc fn K) (i : Nat) {f : Fc} (h : fc[i]? = some f := by rfl) : f K = true := by
  have c1 := (Bool.and_eq_true_iff.mp (show ((fc.all fun f => f K) && fn.all fun d => fnB K d) = true from congrArg (fun z : He.Al => z.1) c)).1
  exact List.all_eq_true.mp c1 f (List.mem_of_getElem? h)
theorem SaysH.parts (c : SaysH fc fn K) (i : Nat) {d : He.FnD} (h : fn[i]? = some d) :
    fnB K d = true ∧ ∃ oc od osl kV doc pm an cdv ct, K.lookup (He.fAd K d.at_) = some ⟨oc, od, .func (PySem.W.fnOf d.name d.qual d.params d.body d.scope .none kV doc pm an cdv ct), osl⟩ ∧ PySem.W.codeIn K cdv d.qual = true := by
  have c2 := (Bool.and_eq_true_iff.mp (show ((fc.all fun f => f K) && fn.all fun d => fnB K d) = true from congrArg (fun z : He.Al => z.1) c)).2
  have c3 := List.all_eq_true.mp c2 d (List.mem_of_getElem? h)
  have e : fn.map (fun d => He.fnObs K d.at_) = fn.map He.FnD.val := congrArg (fun z : He.Al => z.2) c
  have e2 : (fn.map fun d => He.fnObs K d.at_)[i]? = (fn.map He.FnD.val)[i]? := by rw [e]
  rw [List.getElem?_map, List.getElem?_map, h] at e2
  exact ⟨c3, He.fn_ok (Option.some.inj e2) (Bool.and_eq_true_iff.mp (Bool.and_eq_true_iff.mp c3).2).2⟩
/-- the i-th function, a def of the module -/
theorem SaysH.fun_ (c : SaysH fc fn K) (i : Nat) {x name qual : Str} {st : Stmt} (h : fn[i]? = some (dOf x none name qual st) := by rfl) :
    ∃ (f : Addr) (oc : Value) (od : Option Addr) (osl : Array (Option Value)) (kV doc pm : Value) (an : Option Addr) (cdv ct : Value), PySem.W.nsIn K mainGlobals x = some (some (.ref f)) ∧
      K.lookup f = some ⟨oc, od, .func (PySem.W.fnOf name qual (defArgs st) (defBody st) (defScope st) .none kV doc pm an cdv ct), osl⟩ ∧ PySem.W.codeIn K cdv qual = true ∧ PySem.W.keepIn K (.ref f) = true := by
  obtain ⟨c1, oc, od, osl, kV, doc, pm, an, cdv, ct, l, cd⟩ := c.parts i h
  obtain ⟨a, b⟩ := Bool.and_eq_true_iff.mp c1
  exact ⟨_, oc, od, osl, kV, doc, pm, an, cdv, ct, He.eqO_ok a, l, cd, (Bool.and_eq_true_iff.mp b).1⟩
end
def gloB (x : Str) (K : PySem.W.Frag) : Bool := He.eqO (PySem.W.nsIn K mainGlobals x) (some (some (.ref (He.ga K x))))
theorem gloB_ok {x : Str} (c : gloB x K = true) : PySem.W.nsIn K mainGlobals x = some (some (.ref (He.ga K x))) := He.eqO_ok c
def freeB (x : Str) (K : PySem.W.Frag) : Bool := He.eqO (PySem.W.nsIn K mainGlobals x) (some none)
theorem freeB_ok {x : Str} (c : freeB x K = true) : PySem.W.nsIn K mainGlobals x = some none := He.eqO_ok c
end
abbrev Grp : Type := List Fc × List He.FnD
abbrev hookL (as : List Addr) (gs : List Grp) : PySem.W.Hook where
  α := List He.Al
  obs := fun s => gs.map fun g => obsH g.1 g.2 (He.frG s.heap.get? as)
  val := fun _ => gs.map fun g => He.valE g.2
  says := fun _ h => ∃ K : PySem.W.Frag, K.In h ∧ ∀ g ∈ gs, SaysH g.1 g.2 K
  of := fun w s e => ⟨He.frG s.heap.get? as, He.frG_in, fun g hg => List.map_inj_left.mp (show (gs.map fun g => obsH g.1 g.2 (He.frG s.heap.get? as)) = gs.map fun g => He.valE g.2 from e) g hg⟩
  keeps := fun _ _ _ ⟨K, hK, c⟩ k => ⟨K, PySem.W.Frag.In.keeps hK k, c⟩
def obL (as : List Addr) (gs : List Grp) (s : PySem.W.SharedT) : List He.Al := gs.map fun g => obH as g.1 g.2 s
theorem obL_eq {as : List Addr} {gs : List Grp} (s : PySem.W.SharedT) : obL as gs s = (hookL as gs).obs s.abs := List.map_congr_left fun g _ => obH_eq s
abbrev endR (r : PySem.W.OpenRow) (M : Nat) (w : World) (os : OsState) : Option PySem.W.SharedT := HandSHeadRun.endF (HandSHeadRun.stepQ (HandSHeadRun.denQ HandSHeadRun.tabQ) r.prog w) M r.prog w os
def Run0 (r : PySem.W.OpenRow) (q : Program) (M : Nat) (loose : List Str) : Prop := ∀ (w : World) (os : OsState),
  (endR r M w os).map (fun s => (HandSHeadRun.looksF r.prog (boot_heap w.params) s.abs, HandSHeadRun.seenQ q loose (importedModules r.prog.main.body) (fun s => PySem.W.xlAt q [] s && PySem.W.recOk r.toRowW.records s) s.abs)) = some (true, PySem.W.openGood q loose)
def RunG (r : PySem.W.OpenRow) (M : Nat) (as : List Addr) (g : Grp) : Prop := ∀ (w : World) (os : OsState), (endR r M w os).map (fun s => obH as g.1 g.2 s) = some (He.valE g.2)
theorem run_all {r : PySem.W.OpenRow} {q : Program} {M : Nat} {loose : List Str} {as : List Addr} {gs : List Grp} (h0 : Run0 r q M loose) (hg : ∀ g ∈ gs, RunG r M as g) (w : World) :
    HandSHeadRun.RunEq r q (hookL as gs) (obL as gs) M loose w := fun os => by
  have a := h0 w os
  show (endR r M w os).map _ = _
  cases e : endR r M w os with
  | none =>
    rw [e] at a
    cases a
  | some s =>
    rw [e] at a
    have a1 := Option.some.inj a
    obtain ⟨b1, b2⟩ := Prod.mk.inj a1
    have c : obL as gs s = gs.map fun g => He.valE g.2 := List.map_congr_left fun g h => by
      have z := hg g h w os
      rw [e] at z
      exact Option.some.inj z
    show some (_, _, obL as gs s) = _
    rw [c]
    exact congrArg some (Prod.ext b1 (Prod.ext b2 rfl))
end HX
end

namespace WkH
open PySem PySem.Spec PyProof.Rows L2 HX
def topS (i : Nat) : Stmt := PySem.Challenge.pw_shungrow_k01_rules_known.main.body.getD i (.Pass ⟨0, 0, 0, 0⟩)
abbrev s_law_cells_a : Stmt := topS 24
abbrev s_law_dig_a : Stmt := topS 22
abbrev s_law_next_a : Stmt := topS 23
abbrev s_law_rule_a : Stmt := topS 25
abbrev s_law_made_a : Stmt := topS 26
abbrev s_law_kinds_a : Stmt := topS 27
abbrev s_law_apart_a : Stmt := topS 28
abbrev s_law_steps_a : Stmt := topS 29
abbrev s_law_thing_a : Stmt := topS 30
abbrev s_law_bent_a : Stmt := topS 33
abbrev s_is_whole_a : Stmt := topS 4
abbrev s_is_rising_a : Stmt := topS 5
abbrev s_is_steps_a : Stmt := topS 6
abbrev s_is_rule_a : Stmt := topS 7
abbrev s_law_is_number_a : Stmt := topS 31
abbrev s_law_due_a : Stmt := topS 32
abbrev s_law_k01 : Stmt := topS 34
def fnsa_0 : List He.FnD := [dOf "_law_cells" none "_law_cells" "_law_cells" s_law_cells_a, dOf "_law_dig" none "_law_dig" "_law_dig" s_law_dig_a, dOf "_law_next" none "_law_next" "_law_next" s_law_next_a, dOf "_law_rule" none "_law_rule" "_law_rule" s_law_rule_a, dOf "_law_made" none "_law_made" "_law_made" s_law_made_a, dOf "_law_kinds" none "_law_kinds" "_law_kinds" s_law_kinds_a, dOf "_law_apart" none "_law_apart" "_law_apart" s_law_apart_a, dOf "_law_steps" none "_law_steps" "_law_steps" s_law_steps_a, dOf "_law_thing" none "_law_thing" "_law_thing" s_law_thing_a, dOf "_law_bent" none "_law_bent" "_law_bent" s_law_bent_a, dOf "is_whole" none "is_whole" "is_whole" s_is_whole_a, dOf "is_rising" none "is_rising" "is_rising" s_is_rising_a, dOf "is_steps" none "is_steps" "is_steps" s_is_steps_a, dOf "is_rule" none "is_rule" "is_rule" s_is_rule_a, dOf "_law_is_number" none "_law_is_number" "_law_is_number" s_law_is_number_a, dOf "_law_due" none "_law_due" "_law_due" s_law_due_a, dOf "law" none "law" "law" s_law_k01]
def fnsa : List He.FnD := fnsa_0
def fcs_0 : List Fc := [freeB "ValueError", freeB "all", freeB "bool", freeB "int", freeB "isinstance", freeB "len", freeB "list", freeB "max", freeB "range", freeB "set", freeB "sorted", freeB "str", freeB "tuple", freeB "zip", gloB "Broken", gloB "IsIn", gloB "NoNumber", gloB "NoPaper", gloB "NoPast", gloB "NoPlace", gloB "NoRow", gloB "NoStart", gloB "NoText", gloB "ShunError", gloB "TooLow", gloB "TooMuch", fun K => PySem.W.excIn K (He.ga K "Broken") [.type "ValueError", .type "Exception", .type "BaseException", .type "object"] "ValueError.__new__", fun K => PySem.W.keepIn K (.ref (He.ga K "Broken")), fun K => decide (PySem.W.subIn K (.ref (He.ga K "Broken")) (.type "BaseException") = some true), fun K => decide (PySem.W.typeIn K (.ref (He.ga K "Broken")) = some (.type "type"))]
def fcs_1 : List Fc := [fun K => He.eqO (PySem.W.findIn K (.ref (He.ga K "Broken")) "__getattribute__") (some (some (.builtin "BaseException.__getattribute__"))), fun K => He.eqO (PySem.W.findIn K (.ref (He.ga K "Broken")) "__getattr__") (some none), fun K => PySem.W.hasDictIn K (He.ga K "Broken"), fun K => He.eqO (PySem.W.findIn K (.ref (He.ga K "Broken")) "__class__") (some (some (.builtin "object.__class__"))), fun K => decide (PySem.W.mroIn K (He.ga K "Broken") (.type "object") = some true), fun K => decide (PySem.W.subIn K (.ref (He.ga K "Broken")) (.ref (He.ga K "ShunError")) = some true), fun K => decide (PySem.W.kitOne K (.ref (He.ga K "Broken")) (.ref (He.ga K "ShunError")) = some true), fun K => decide (PySem.W.kitOne K (.ref (He.ga K "Broken")) (.ref (He.ga K "Broken")) = some true), fun K => decide (PySem.W.kitOne K (.ref (He.ga K "Broken")) (.ref (He.ga K "NoStart")) = some false), fun K => decide (PySem.W.kitOne K (.ref (He.ga K "Broken")) (.ref (He.ga K "TooMuch")) = some false), fun K => decide (PySem.W.kitOne K (.ref (He.ga K "Broken")) (.ref (He.ga K "TooLow")) = some false), fun K => decide (PySem.W.kitOne K (.ref (He.ga K "Broken")) (.ref (He.ga K "IsIn")) = some false), fun K => decide (PySem.W.kitOne K (.ref (He.ga K "Broken")) (.ref (He.ga K "NoPlace")) = some false), fun K => decide (PySem.W.kitOne K (.ref (He.ga K "Broken")) (.ref (He.ga K "NoPaper")) = some false), fun K => decide (PySem.W.kitOne K (.ref (He.ga K "Broken")) (.ref (He.ga K "NoText")) = some false), fun K => decide (PySem.W.kitOne K (.ref (He.ga K "Broken")) (.ref (He.ga K "NoRow")) = some false), fun K => decide (PySem.W.kitOne K (.ref (He.ga K "Broken")) (.ref (He.ga K "NoNumber")) = some false), fun K => decide (PySem.W.kitOne K (.ref (He.ga K "Broken")) (.ref (He.ga K "NoPast")) = some false), fun K => decide (PySem.W.kitOne K (.ref (He.ga K "Broken")) (.type "ValueError") = some true), fun K => PySem.W.excIn K (He.ga K "IsIn") [.type "ValueError", .type "Exception", .type "BaseException", .type "object"] "ValueError.__new__", fun K => PySem.W.keepIn K (.ref (He.ga K "IsIn")), fun K => decide (PySem.W.subIn K (.ref (He.ga K "IsIn")) (.type "BaseException") = some true), fun K => decide (PySem.W.typeIn K (.ref (He.ga K "IsIn")) = some (.type "type")), fun K => He.eqO (PySem.W.findIn K (.ref (He.ga K "IsIn")) "__getattribute__") (some (some (.builtin "BaseException.__getattribute__"))), fun K => He.eqO (PySem.W.findIn K (.ref (He.ga K "IsIn")) "__getattr__") (some none), fun K => PySem.W.hasDictIn K (He.ga K "IsIn"), fun K => He.eqO (PySem.W.findIn K (.ref (He.ga K "IsIn")) "__class__") (some (some (.builtin "object.__class__"))), fun K => decide (PySem.W.mroIn K (He.ga K "IsIn") (.type "object") = some true), fun K => decide (PySem.W.subIn K (.ref (He.ga K "IsIn")) (.ref (He.ga K "ShunError")) = some true), fun K => decide (PySem.W.kitOne K (.ref (He.ga K "IsIn")) (.ref (He.ga K "ShunError")) = some true)]
def fcs_2 : List Fc := [fun K => decide (PySem.W.kitOne K (.ref (He.ga K "IsIn")) (.ref (He.ga K "Broken")) = some false), fun K => decide (PySem.W.kitOne K (.ref (He.ga K "IsIn")) (.ref (He.ga K "NoStart")) = some false), fun K => decide (PySem.W.kitOne K (.ref (He.ga K "IsIn")) (.ref (He.ga K "TooMuch")) = some false), fun K => decide (PySem.W.kitOne K (.ref (He.ga K "IsIn")) (.ref (He.ga K "TooLow")) = some false), fun K => decide (PySem.W.kitOne K (.ref (He.ga K "IsIn")) (.ref (He.ga K "IsIn")) = some true), fun K => decide (PySem.W.kitOne K (.ref (He.ga K "IsIn")) (.ref (He.ga K "NoPlace")) = some false), fun K => decide (PySem.W.kitOne K (.ref (He.ga K "IsIn")) (.ref (He.ga K "NoPaper")) = some false), fun K => decide (PySem.W.kitOne K (.ref (He.ga K "IsIn")) (.ref (He.ga K "NoText")) = some false), fun K => decide (PySem.W.kitOne K (.ref (He.ga K "IsIn")) (.ref (He.ga K "NoRow")) = some false), fun K => decide (PySem.W.kitOne K (.ref (He.ga K "IsIn")) (.ref (He.ga K "NoNumber")) = some false), fun K => decide (PySem.W.kitOne K (.ref (He.ga K "IsIn")) (.ref (He.ga K "NoPast")) = some false), fun K => decide (PySem.W.kitOne K (.ref (He.ga K "IsIn")) (.type "ValueError") = some true), fun K => PySem.W.excIn K (He.ga K "NoNumber") [.type "ValueError", .type "Exception", .type "BaseException", .type "object"] "ValueError.__new__", fun K => PySem.W.keepIn K (.ref (He.ga K "NoNumber")), fun K => decide (PySem.W.subIn K (.ref (He.ga K "NoNumber")) (.type "BaseException") = some true), fun K => decide (PySem.W.typeIn K (.ref (He.ga K "NoNumber")) = some (.type "type")), fun K => He.eqO (PySem.W.findIn K (.ref (He.ga K "NoNumber")) "__getattribute__") (some (some (.builtin "BaseException.__getattribute__"))), fun K => He.eqO (PySem.W.findIn K (.ref (He.ga K "NoNumber")) "__getattr__") (some none), fun K => PySem.W.hasDictIn K (He.ga K "NoNumber"), fun K => He.eqO (PySem.W.findIn K (.ref (He.ga K "NoNumber")) "__class__") (some (some (.builtin "object.__class__"))), fun K => decide (PySem.W.mroIn K (He.ga K "NoNumber") (.type "object") = some true), fun K => decide (PySem.W.subIn K (.ref (He.ga K "NoNumber")) (.ref (He.ga K "ShunError")) = some true), fun K => decide (PySem.W.kitOne K (.ref (He.ga K "NoNumber")) (.ref (He.ga K "ShunError")) = some true), fun K => decide (PySem.W.kitOne K (.ref (He.ga K "NoNumber")) (.ref (He.ga K "Broken")) = some false), fun K => decide (PySem.W.kitOne K (.ref (He.ga K "NoNumber")) (.ref (He.ga K "NoStart")) = some false), fun K => decide (PySem.W.kitOne K (.ref (He.ga K "NoNumber")) (.ref (He.ga K "TooMuch")) = some false), fun K => decide (PySem.W.kitOne K (.ref (He.ga K "NoNumber")) (.ref (He.ga K "TooLow")) = some false), fun K => decide (PySem.W.kitOne K (.ref (He.ga K "NoNumber")) (.ref (He.ga K "IsIn")) = some false), fun K => decide (PySem.W.kitOne K (.ref (He.ga K "NoNumber")) (.ref (He.ga K "NoPlace")) = some false), fun K => decide (PySem.W.kitOne K (.ref (He.ga K "NoNumber")) (.ref (He.ga K "NoPaper")) = some false)]
def fcs_3 : List Fc := [fun K => decide (PySem.W.kitOne K (.ref (He.ga K "NoNumber")) (.ref (He.ga K "NoText")) = some false), fun K => decide (PySem.W.kitOne K (.ref (He.ga K "NoNumber")) (.ref (He.ga K "NoRow")) = some false), fun K => decide (PySem.W.kitOne K (.ref (He.ga K "NoNumber")) (.ref (He.ga K "NoNumber")) = some true), fun K => decide (PySem.W.kitOne K (.ref (He.ga K "NoNumber")) (.ref (He.ga K "NoPast")) = some false), fun K => decide (PySem.W.kitOne K (.ref (He.ga K "NoNumber")) (.type "ValueError") = some true), fun K => PySem.W.excIn K (He.ga K "NoPaper") [.type "ValueError", .type "Exception", .type "BaseException", .type "object"] "ValueError.__new__", fun K => PySem.W.keepIn K (.ref (He.ga K "NoPaper")), fun K => decide (PySem.W.subIn K (.ref (He.ga K "NoPaper")) (.type "BaseException") = some true), fun K => decide (PySem.W.typeIn K (.ref (He.ga K "NoPaper")) = some (.type "type")), fun K => He.eqO (PySem.W.findIn K (.ref (He.ga K "NoPaper")) "__getattribute__") (some (some (.builtin "BaseException.__getattribute__"))), fun K => He.eqO (PySem.W.findIn K (.ref (He.ga K "NoPaper")) "__getattr__") (some none), fun K => PySem.W.hasDictIn K (He.ga K "NoPaper"), fun K => He.eqO (PySem.W.findIn K (.ref (He.ga K "NoPaper")) "__class__") (some (some (.builtin "object.__class__"))), fun K => decide (PySem.W.mroIn K (He.ga K "NoPaper") (.type "object") = some true), fun K => decide (PySem.W.subIn K (.ref (He.ga K "NoPaper")) (.ref (He.ga K "ShunError")) = some true), fun K => decide (PySem.W.kitOne K (.ref (He.ga K "NoPaper")) (.ref (He.ga K "ShunError")) = some true), fun K => decide (PySem.W.kitOne K (.ref (He.ga K "NoPaper")) (.ref (He.ga K "Broken")) = some false), fun K => decide (PySem.W.kitOne K (.ref (He.ga K "NoPaper")) (.ref (He.ga K "NoStart")) = some false), fun K => decide (PySem.W.kitOne K (.ref (He.ga K "NoPaper")) (.ref (He.ga K "TooMuch")) = some false), fun K => decide (PySem.W.kitOne K (.ref (He.ga K "NoPaper")) (.ref (He.ga K "TooLow")) = some false), fun K => decide (PySem.W.kitOne K (.ref (He.ga K "NoPaper")) (.ref (He.ga K "IsIn")) = some false), fun K => decide (PySem.W.kitOne K (.ref (He.ga K "NoPaper")) (.ref (He.ga K "NoPlace")) = some false), fun K => decide (PySem.W.kitOne K (.ref (He.ga K "NoPaper")) (.ref (He.ga K "NoPaper")) = some true), fun K => decide (PySem.W.kitOne K (.ref (He.ga K "NoPaper")) (.ref (He.ga K "NoText")) = some false), fun K => decide (PySem.W.kitOne K (.ref (He.ga K "NoPaper")) (.ref (He.ga K "NoRow")) = some false), fun K => decide (PySem.W.kitOne K (.ref (He.ga K "NoPaper")) (.ref (He.ga K "NoNumber")) = some false), fun K => decide (PySem.W.kitOne K (.ref (He.ga K "NoPaper")) (.ref (He.ga K "NoPast")) = some false), fun K => decide (PySem.W.kitOne K (.ref (He.ga K "NoPaper")) (.type "ValueError") = some true), fun K => PySem.W.excIn K (He.ga K "NoPast") [.type "ValueError", .type "Exception", .type "BaseException", .type "object"] "ValueError.__new__", fun K => PySem.W.keepIn K (.ref (He.ga K "NoPast"))]
def fcs_4 : List Fc := [fun K => decide (PySem.W.subIn K (.ref (He.ga K "NoPast")) (.type "BaseException") = some true), fun K => decide (PySem.W.typeIn K (.ref (He.ga K "NoPast")) = some (.type "type")), fun K => He.eqO (PySem.W.findIn K (.ref (He.ga K "NoPast")) "__getattribute__") (some (some (.builtin "BaseException.__getattribute__"))), fun K => He.eqO (PySem.W.findIn K (.ref (He.ga K "NoPast")) "__getattr__") (some none), fun K => PySem.W.hasDictIn K (He.ga K "NoPast"), fun K => He.eqO (PySem.W.findIn K (.ref (He.ga K "NoPast")) "__class__") (some (some (.builtin "object.__class__"))), fun K => decide (PySem.W.mroIn K (He.ga K "NoPast") (.type "object") = some true), fun K => decide (PySem.W.subIn K (.ref (He.ga K "NoPast")) (.ref (He.ga K "ShunError")) = some true), fun K => decide (PySem.W.kitOne K (.ref (He.ga K "NoPast")) (.ref (He.ga K "ShunError")) = some true), fun K => decide (PySem.W.kitOne K (.ref (He.ga K "NoPast")) (.ref (He.ga K "Broken")) = some false), fun K => decide (PySem.W.kitOne K (.ref (He.ga K "NoPast")) (.ref (He.ga K "NoStart")) = some false), fun K => decide (PySem.W.kitOne K (.ref (He.ga K "NoPast")) (.ref (He.ga K "TooMuch")) = some false), fun K => decide (PySem.W.kitOne K (.ref (He.ga K "NoPast")) (.ref (He.ga K "TooLow")) = some false), fun K => decide (PySem.W.kitOne K (.ref (He.ga K "NoPast")) (.ref (He.ga K "IsIn")) = some false), fun K => decide (PySem.W.kitOne K (.ref (He.ga K "NoPast")) (.ref (He.ga K "NoPlace")) = some false), fun K => decide (PySem.W.kitOne K (.ref (He.ga K "NoPast")) (.ref (He.ga K "NoPaper")) = some false), fun K => decide (PySem.W.kitOne K (.ref (He.ga K "NoPast")) (.ref (He.ga K "NoText")) = some false), fun K => decide (PySem.W.kitOne K (.ref (He.ga K "NoPast")) (.ref (He.ga K "NoRow")) = some false), fun K => decide (PySem.W.kitOne K (.ref (He.ga K "NoPast")) (.ref (He.ga K "NoNumber")) = some false), fun K => decide (PySem.W.kitOne K (.ref (He.ga K "NoPast")) (.ref (He.ga K "NoPast")) = some true), fun K => decide (PySem.W.kitOne K (.ref (He.ga K "NoPast")) (.type "ValueError") = some true), fun K => PySem.W.excIn K (He.ga K "NoPlace") [.type "ValueError", .type "Exception", .type "BaseException", .type "object"] "ValueError.__new__", fun K => PySem.W.keepIn K (.ref (He.ga K "NoPlace")), fun K => decide (PySem.W.subIn K (.ref (He.ga K "NoPlace")) (.type "BaseException") = some true), fun K => decide (PySem.W.typeIn K (.ref (He.ga K "NoPlace")) = some (.type "type")), fun K => He.eqO (PySem.W.findIn K (.ref (He.ga K "NoPlace")) "__getattribute__") (some (some (.builtin "BaseException.__getattribute__"))), fun K => He.eqO (PySem.W.findIn K (.ref (He.ga K "NoPlace")) "__getattr__") (some none), fun K => PySem.W.hasDictIn K (He.ga K "NoPlace"), fun K => He.eqO (PySem.W.findIn K (.ref (He.ga K "NoPlace")) "__class__") (some (some (.builtin "object.__class__"))), fun K => decide (PySem.W.mroIn K (He.ga K "NoPlace") (.type "object") = some true)]
def fcs_5 : List Fc := [fun K => decide (PySem.W.subIn K (.ref (He.ga K "NoPlace")) (.ref (He.ga K "ShunError")) = some true), fun K => decide (PySem.W.kitOne K (.ref (He.ga K "NoPlace")) (.ref (He.ga K "ShunError")) = some true), fun K => decide (PySem.W.kitOne K (.ref (He.ga K "NoPlace")) (.ref (He.ga K "Broken")) = some false), fun K => decide (PySem.W.kitOne K (.ref (He.ga K "NoPlace")) (.ref (He.ga K "NoStart")) = some false), fun K => decide (PySem.W.kitOne K (.ref (He.ga K "NoPlace")) (.ref (He.ga K "TooMuch")) = some false), fun K => decide (PySem.W.kitOne K (.ref (He.ga K "NoPlace")) (.ref (He.ga K "TooLow")) = some false), fun K => decide (PySem.W.kitOne K (.ref (He.ga K "NoPlace")) (.ref (He.ga K "IsIn")) = some false), fun K => decide (PySem.W.kitOne K (.ref (He.ga K "NoPlace")) (.ref (He.ga K "NoPlace")) = some true), fun K => decide (PySem.W.kitOne K (.ref (He.ga K "NoPlace")) (.ref (He.ga K "NoPaper")) = some false), fun K => decide (PySem.W.kitOne K (.ref (He.ga K "NoPlace")) (.ref (He.ga K "NoText")) = some false), fun K => decide (PySem.W.kitOne K (.ref (He.ga K "NoPlace")) (.ref (He.ga K "NoRow")) = some false), fun K => decide (PySem.W.kitOne K (.ref (He.ga K "NoPlace")) (.ref (He.ga K "NoNumber")) = some false), fun K => decide (PySem.W.kitOne K (.ref (He.ga K "NoPlace")) (.ref (He.ga K "NoPast")) = some false), fun K => decide (PySem.W.kitOne K (.ref (He.ga K "NoPlace")) (.type "ValueError") = some true), fun K => PySem.W.excIn K (He.ga K "NoRow") [.type "ValueError", .type "Exception", .type "BaseException", .type "object"] "ValueError.__new__", fun K => PySem.W.keepIn K (.ref (He.ga K "NoRow")), fun K => decide (PySem.W.subIn K (.ref (He.ga K "NoRow")) (.type "BaseException") = some true), fun K => decide (PySem.W.typeIn K (.ref (He.ga K "NoRow")) = some (.type "type")), fun K => He.eqO (PySem.W.findIn K (.ref (He.ga K "NoRow")) "__getattribute__") (some (some (.builtin "BaseException.__getattribute__"))), fun K => He.eqO (PySem.W.findIn K (.ref (He.ga K "NoRow")) "__getattr__") (some none), fun K => PySem.W.hasDictIn K (He.ga K "NoRow"), fun K => He.eqO (PySem.W.findIn K (.ref (He.ga K "NoRow")) "__class__") (some (some (.builtin "object.__class__"))), fun K => decide (PySem.W.mroIn K (He.ga K "NoRow") (.type "object") = some true), fun K => decide (PySem.W.subIn K (.ref (He.ga K "NoRow")) (.ref (He.ga K "ShunError")) = some true), fun K => decide (PySem.W.kitOne K (.ref (He.ga K "NoRow")) (.ref (He.ga K "ShunError")) = some true), fun K => decide (PySem.W.kitOne K (.ref (He.ga K "NoRow")) (.ref (He.ga K "Broken")) = some false), fun K => decide (PySem.W.kitOne K (.ref (He.ga K "NoRow")) (.ref (He.ga K "NoStart")) = some false), fun K => decide (PySem.W.kitOne K (.ref (He.ga K "NoRow")) (.ref (He.ga K "TooMuch")) = some false), fun K => decide (PySem.W.kitOne K (.ref (He.ga K "NoRow")) (.ref (He.ga K "TooLow")) = some false), fun K => decide (PySem.W.kitOne K (.ref (He.ga K "NoRow")) (.ref (He.ga K "IsIn")) = some false)]
def fcs_6 : List Fc := [fun K => decide (PySem.W.kitOne K (.ref (He.ga K "NoRow")) (.ref (He.ga K "NoPlace")) = some false), fun K => decide (PySem.W.kitOne K (.ref (He.ga K "NoRow")) (.ref (He.ga K "NoPaper")) = some false), fun K => decide (PySem.W.kitOne K (.ref (He.ga K "NoRow")) (.ref (He.ga K "NoText")) = some false), fun K => decide (PySem.W.kitOne K (.ref (He.ga K "NoRow")) (.ref (He.ga K "NoRow")) = some true), fun K => decide (PySem.W.kitOne K (.ref (He.ga K "NoRow")) (.ref (He.ga K "NoNumber")) = some false), fun K => decide (PySem.W.kitOne K (.ref (He.ga K "NoRow")) (.ref (He.ga K "NoPast")) = some false), fun K => decide (PySem.W.kitOne K (.ref (He.ga K "NoRow")) (.type "ValueError") = some true), fun K => PySem.W.excIn K (He.ga K "NoStart") [.type "ValueError", .type "Exception", .type "BaseException", .type "object"] "ValueError.__new__", fun K => PySem.W.keepIn K (.ref (He.ga K "NoStart")), fun K => decide (PySem.W.subIn K (.ref (He.ga K "NoStart")) (.type "BaseException") = some true), fun K => decide (PySem.W.typeIn K (.ref (He.ga K "NoStart")) = some (.type "type")), fun K => He.eqO (PySem.W.findIn K (.ref (He.ga K "NoStart")) "__getattribute__") (some (some (.builtin "BaseException.__getattribute__"))), fun K => He.eqO (PySem.W.findIn K (.ref (He.ga K "NoStart")) "__getattr__") (some none), fun K => PySem.W.hasDictIn K (He.ga K "NoStart"), fun K => He.eqO (PySem.W.findIn K (.ref (He.ga K "NoStart")) "__class__") (some (some (.builtin "object.__class__"))), fun K => decide (PySem.W.mroIn K (He.ga K "NoStart") (.type "object") = some true), fun K => decide (PySem.W.subIn K (.ref (He.ga K "NoStart")) (.ref (He.ga K "ShunError")) = some true), fun K => decide (PySem.W.kitOne K (.ref (He.ga K "NoStart")) (.ref (He.ga K "ShunError")) = some true), fun K => decide (PySem.W.kitOne K (.ref (He.ga K "NoStart")) (.ref (He.ga K "Broken")) = some false), fun K => decide (PySem.W.kitOne K (.ref (He.ga K "NoStart")) (.ref (He.ga K "NoStart")) = some true), fun K => decide (PySem.W.kitOne K (.ref (He.ga K "NoStart")) (.ref (He.ga K "TooMuch")) = some false), fun K => decide (PySem.W.kitOne K (.ref (He.ga K "NoStart")) (.ref (He.ga K "TooLow")) = some false), fun K => decide (PySem.W.kitOne K (.ref (He.ga K "NoStart")) (.ref (He.ga K "IsIn")) = some false), fun K => decide (PySem.W.kitOne K (.ref (He.ga K "NoStart")) (.ref (He.ga K "NoPlace")) = some false), fun K => decide (PySem.W.kitOne K (.ref (He.ga K "NoStart")) (.ref (He.ga K "NoPaper")) = some false), fun K => decide (PySem.W.kitOne K (.ref (He.ga K "NoStart")) (.ref (He.ga K "NoText")) = some false), fun K => decide (PySem.W.kitOne K (.ref (He.ga K "NoStart")) (.ref (He.ga K "NoRow")) = some false), fun K => decide (PySem.W.kitOne K (.ref (He.ga K "NoStart")) (.ref (He.ga K "NoNumber")) = some false), fun K => decide (PySem.W.kitOne K (.ref (He.ga K "NoStart")) (.ref (He.ga K "NoPast")) = some false), fun K => decide (PySem.W.kitOne K (.ref (He.ga K "NoStart")) (.type "ValueError") = some true)]
def fcs_7 : List Fc := [fun K => PySem.W.excIn K (He.ga K "NoText") [.type "ValueError", .type "Exception", .type "BaseException", .type "object"] "ValueError.__new__", fun K => PySem.W.keepIn K (.ref (He.ga K "NoText")), fun K => decide (PySem.W.subIn K (.ref (He.ga K "NoText")) (.type "BaseException") = some true), fun K => decide (PySem.W.typeIn K (.ref (He.ga K "NoText")) = some (.type "type")), fun K => He.eqO (PySem.W.findIn K (.ref (He.ga K "NoText")) "__getattribute__") (some (some (.builtin "BaseException.__getattribute__"))), fun K => He.eqO (PySem.W.findIn K (.ref (He.ga K "NoText")) "__getattr__") (some none), fun K => PySem.W.hasDictIn K (He.ga K "NoText"), fun K => He.eqO (PySem.W.findIn K (.ref (He.ga K "NoText")) "__class__") (some (some (.builtin "object.__class__"))), fun K => decide (PySem.W.mroIn K (He.ga K "NoText") (.type "object") = some true), fun K => decide (PySem.W.subIn K (.ref (He.ga K "NoText")) (.ref (He.ga K "ShunError")) = some true), fun K => decide (PySem.W.kitOne K (.ref (He.ga K "NoText")) (.ref (He.ga K "ShunError")) = some true), fun K => decide (PySem.W.kitOne K (.ref (He.ga K "NoText")) (.ref (He.ga K "Broken")) = some false), fun K => decide (PySem.W.kitOne K (.ref (He.ga K "NoText")) (.ref (He.ga K "NoStart")) = some false), fun K => decide (PySem.W.kitOne K (.ref (He.ga K "NoText")) (.ref (He.ga K "TooMuch")) = some false), fun K => decide (PySem.W.kitOne K (.ref (He.ga K "NoText")) (.ref (He.ga K "TooLow")) = some false), fun K => decide (PySem.W.kitOne K (.ref (He.ga K "NoText")) (.ref (He.ga K "IsIn")) = some false), fun K => decide (PySem.W.kitOne K (.ref (He.ga K "NoText")) (.ref (He.ga K "NoPlace")) = some false), fun K => decide (PySem.W.kitOne K (.ref (He.ga K "NoText")) (.ref (He.ga K "NoPaper")) = some false), fun K => decide (PySem.W.kitOne K (.ref (He.ga K "NoText")) (.ref (He.ga K "NoText")) = some true), fun K => decide (PySem.W.kitOne K (.ref (He.ga K "NoText")) (.ref (He.ga K "NoRow")) = some false), fun K => decide (PySem.W.kitOne K (.ref (He.ga K "NoText")) (.ref (He.ga K "NoNumber")) = some false), fun K => decide (PySem.W.kitOne K (.ref (He.ga K "NoText")) (.ref (He.ga K "NoPast")) = some false), fun K => decide (PySem.W.kitOne K (.ref (He.ga K "NoText")) (.type "ValueError") = some true), fun K => PySem.W.excIn K (He.ga K "ShunError") [.type "ValueError", .type "Exception", .type "BaseException", .type "object"] "ValueError.__new__", fun K => PySem.W.keepIn K (.ref (He.ga K "ShunError")), fun K => decide (PySem.W.subIn K (.ref (He.ga K "ShunError")) (.type "BaseException") = some true), fun K => decide (PySem.W.typeIn K (.ref (He.ga K "ShunError")) = some (.type "type")), fun K => He.eqO (PySem.W.findIn K (.ref (He.ga K "ShunError")) "__getattribute__") (some (some (.builtin "BaseException.__getattribute__"))), fun K => He.eqO (PySem.W.findIn K (.ref (He.ga K "ShunError")) "__getattr__") (some none), fun K => PySem.W.hasDictIn K (He.ga K "ShunError")]
def fcs_8 : List Fc := [fun K => He.eqO (PySem.W.findIn K (.ref (He.ga K "ShunError")) "__class__") (some (some (.builtin "object.__class__"))), fun K => decide (PySem.W.mroIn K (He.ga K "ShunError") (.type "object") = some true), fun K => decide (PySem.W.subIn K (.ref (He.ga K "ShunError")) (.ref (He.ga K "ShunError")) = some true), fun K => decide (PySem.W.kitOne K (.ref (He.ga K "ShunError")) (.ref (He.ga K "ShunError")) = some true), fun K => decide (PySem.W.kitOne K (.ref (He.ga K "ShunError")) (.ref (He.ga K "Broken")) = some false), fun K => decide (PySem.W.kitOne K (.ref (He.ga K "ShunError")) (.ref (He.ga K "NoStart")) = some false), fun K => decide (PySem.W.kitOne K (.ref (He.ga K "ShunError")) (.ref (He.ga K "TooMuch")) = some false), fun K => decide (PySem.W.kitOne K (.ref (He.ga K "ShunError")) (.ref (He.ga K "TooLow")) = some false), fun K => decide (PySem.W.kitOne K (.ref (He.ga K "ShunError")) (.ref (He.ga K "IsIn")) = some false), fun K => decide (PySem.W.kitOne K (.ref (He.ga K "ShunError")) (.ref (He.ga K "NoPlace")) = some false), fun K => decide (PySem.W.kitOne K (.ref (He.ga K "ShunError")) (.ref (He.ga K "NoPaper")) = some false), fun K => decide (PySem.W.kitOne K (.ref (He.ga K "ShunError")) (.ref (He.ga K "NoText")) = some false), fun K => decide (PySem.W.kitOne K (.ref (He.ga K "ShunError")) (.ref (He.ga K "NoRow")) = some false), fun K => decide (PySem.W.kitOne K (.ref (He.ga K "ShunError")) (.ref (He.ga K "NoNumber")) = some false), fun K => decide (PySem.W.kitOne K (.ref (He.ga K "ShunError")) (.ref (He.ga K "NoPast")) = some false), fun K => decide (PySem.W.kitOne K (.ref (He.ga K "ShunError")) (.type "ValueError") = some true), fun K => PySem.W.excIn K (He.ga K "TooLow") [.type "ValueError", .type "Exception", .type "BaseException", .type "object"] "ValueError.__new__", fun K => PySem.W.keepIn K (.ref (He.ga K "TooLow")), fun K => decide (PySem.W.subIn K (.ref (He.ga K "TooLow")) (.type "BaseException") = some true), fun K => decide (PySem.W.typeIn K (.ref (He.ga K "TooLow")) = some (.type "type")), fun K => He.eqO (PySem.W.findIn K (.ref (He.ga K "TooLow")) "__getattribute__") (some (some (.builtin "BaseException.__getattribute__"))), fun K => He.eqO (PySem.W.findIn K (.ref (He.ga K "TooLow")) "__getattr__") (some none), fun K => PySem.W.hasDictIn K (He.ga K "TooLow"), fun K => He.eqO (PySem.W.findIn K (.ref (He.ga K "TooLow")) "__class__") (some (some (.builtin "object.__class__"))), fun K => decide (PySem.W.mroIn K (He.ga K "TooLow") (.type "object") = some true), fun K => decide (PySem.W.subIn K (.ref (He.ga K "TooLow")) (.ref (He.ga K "ShunError")) = some true), fun K => decide (PySem.W.kitOne K (.ref (He.ga K "TooLow")) (.ref (He.ga K "ShunError")) = some true), fun K => decide (PySem.W.kitOne K (.ref (He.ga K "TooLow")) (.ref (He.ga K "Broken")) = some false), fun K => decide (PySem.W.kitOne K (.ref (He.ga K "TooLow")) (.ref (He.ga K "NoStart")) = some false), fun K => decide (PySem.W.kitOne K (.ref (He.ga K "TooLow")) (.ref (He.ga K "TooMuch")) = some false)]
def fcs_9 : List Fc := [fun K => decide (PySem.W.kitOne K (.ref (He.ga K "TooLow")) (.ref (He.ga K "TooLow")) = some true), fun K => decide (PySem.W.kitOne K (.ref (He.ga K "TooLow")) (.ref (He.ga K "IsIn")) = some false), fun K => decide (PySem.W.kitOne K (.ref (He.ga K "TooLow")) (.ref (He.ga K "NoPlace")) = some false), fun K => decide (PySem.W.kitOne K (.ref (He.ga K "TooLow")) (.ref (He.ga K "NoPaper")) = some false), fun K => decide (PySem.W.kitOne K (.ref (He.ga K "TooLow")) (.ref (He.ga K "NoText")) = some false), fun K => decide (PySem.W.kitOne K (.ref (He.ga K "TooLow")) (.ref (He.ga K "NoRow")) = some false), fun K => decide (PySem.W.kitOne K (.ref (He.ga K "TooLow")) (.ref (He.ga K "NoNumber")) = some false), fun K => decide (PySem.W.kitOne K (.ref (He.ga K "TooLow")) (.ref (He.ga K "NoPast")) = some false), fun K => decide (PySem.W.kitOne K (.ref (He.ga K "TooLow")) (.type "ValueError") = some true), fun K => PySem.W.excIn K (He.ga K "TooMuch") [.type "ValueError", .type "Exception", .type "BaseException", .type "object"] "ValueError.__new__", fun K => PySem.W.keepIn K (.ref (He.ga K "TooMuch")), fun K => decide (PySem.W.subIn K (.ref (He.ga K "TooMuch")) (.type "BaseException") = some true), fun K => decide (PySem.W.typeIn K (.ref (He.ga K "TooMuch")) = some (.type "type")), fun K => He.eqO (PySem.W.findIn K (.ref (He.ga K "TooMuch")) "__getattribute__") (some (some (.builtin "BaseException.__getattribute__"))), fun K => He.eqO (PySem.W.findIn K (.ref (He.ga K "TooMuch")) "__getattr__") (some none), fun K => PySem.W.hasDictIn K (He.ga K "TooMuch"), fun K => He.eqO (PySem.W.findIn K (.ref (He.ga K "TooMuch")) "__class__") (some (some (.builtin "object.__class__"))), fun K => decide (PySem.W.mroIn K (He.ga K "TooMuch") (.type "object") = some true), fun K => decide (PySem.W.subIn K (.ref (He.ga K "TooMuch")) (.ref (He.ga K "ShunError")) = some true), fun K => decide (PySem.W.kitOne K (.ref (He.ga K "TooMuch")) (.ref (He.ga K "ShunError")) = some true), fun K => decide (PySem.W.kitOne K (.ref (He.ga K "TooMuch")) (.ref (He.ga K "Broken")) = some false), fun K => decide (PySem.W.kitOne K (.ref (He.ga K "TooMuch")) (.ref (He.ga K "NoStart")) = some false), fun K => decide (PySem.W.kitOne K (.ref (He.ga K "TooMuch")) (.ref (He.ga K "TooMuch")) = some true), fun K => decide (PySem.W.kitOne K (.ref (He.ga K "TooMuch")) (.ref (He.ga K "TooLow")) = some false), fun K => decide (PySem.W.kitOne K (.ref (He.ga K "TooMuch")) (.ref (He.ga K "IsIn")) = some false), fun K => decide (PySem.W.kitOne K (.ref (He.ga K "TooMuch")) (.ref (He.ga K "NoPlace")) = some false), fun K => decide (PySem.W.kitOne K (.ref (He.ga K "TooMuch")) (.ref (He.ga K "NoPaper")) = some false), fun K => decide (PySem.W.kitOne K (.ref (He.ga K "TooMuch")) (.ref (He.ga K "NoText")) = some false), fun K => decide (PySem.W.kitOne K (.ref (He.ga K "TooMuch")) (.ref (He.ga K "NoRow")) = some false), fun K => decide (PySem.W.kitOne K (.ref (He.ga K "TooMuch")) (.ref (He.ga K "NoNumber")) = some false)]
def fcs_10 : List Fc := [fun K => decide (PySem.W.kitOne K (.ref (He.ga K "TooMuch")) (.ref (He.ga K "NoPast")) = some false), fun K => decide (PySem.W.kitOne K (.ref (He.ga K "TooMuch")) (.type "ValueError") = some true), fun K => He.eqO (PySem.W.specialIn K (.builtin "object.__class__") "__get__") (some (some (.builtin "getset_descriptor.__get__"))), fun K => decide (PySem.W.takesIn K (.builtin "object.__class__") = some true), fun K => decide (PySem.W.subIn K (.ref (He.ga K "ShunError")) (.type "BaseException") = some true), fun K => PySem.W.hasDictIn K (He.ga K "ShunError"), fun K => decide (PySem.W.typeIn K (.ref (He.ga K "ShunError")) = some (.type "type")), litG "MOST_STEP" (.int 10), litG "MOST_STEPS" (.int 4), litG "PLAIN" (.tup [.tup [.str "evens"], .tup [.str "sums"], .tup [.str "pairs"]])]
def fcs : List Fc := fcs_0 ++ (fcs_1 ++ (fcs_2 ++ (fcs_3 ++ (fcs_4 ++ (fcs_5 ++ (fcs_6 ++ (fcs_7 ++ (fcs_8 ++ (fcs_9 ++ (fcs_10))))))))))
def loose_0 : List Str := ["MOST_STEPS", "MOST_STEP", "PLAIN", "is_whole", "is_rising", "is_steps", "is_rule", "ShunError", "Broken", "NoStart", "TooMuch", "TooLow", "IsIn", "NoPlace", "NoPaper", "NoText", "NoRow", "NoNumber", "NoPast", "_law_dig", "_law_next", "_law_cells", "_law_rule", "_law_made", "_law_kinds", "_law_apart", "_law_steps", "_law_thing", "_law_is_number", "_law_due"]
def loose_1 : List Str := ["_law_bent"]
def loose : List Str := loose_0 ++ (loose_1)
def addrs : List Addr := mainGlobals :: (List.range 1500).reverse
abbrev R : PySem.W.OpenRow := PySem.W.OpenLaw.row PySem.Challenge.rw_shungrow_k01_rules_known
abbrev qv : Program := PySem.W.view R.prog [34]
theorem run0 : Run0 R qv 12000 loose := by
  intro w os
  kernel_rfl
abbrev g0 : Grp := (fcs, fnsa)
theorem runG0 : RunG R 12000 addrs g0 := by
  intro w os
  kernel_rfl
abbrev gs : List Grp := [g0]
theorem runs : ∀ g ∈ gs, RunG R 12000 addrs g := by
  intro g hg
  simp only [gs, List.mem_cons, List.not_mem_nil, or_false] at hg
  rcases hg with rfl
  · exact runG0
end WkH
namespace TL
open PySem L2

inductive T where
  | non | bl (b : Bool) | int (i : Int) | str (x : Str)
  | tup (xs : List T) | lst (xs : List T) | dct (ks : List Key) (ts : List T) | scr (ns : List Int) | oth (v : V) | ins (ns : List Str) (ts : List T)
  | bdt (ks : List (List Bool)) (ts : List T)
  | obj (u : V) (ts : List T) | lat (u : V) (ts : List T) | exn (c : String)

/-- a dict's entries: keys tuples of truth values (the tuple at an address), values -/
def bEnt (x : List Bool × Addr × Value) : DictEntry := ⟨reduceHash (Builtin.Tuple.tupleHashOf (x.1.map PpSet.hB)), .ref x.2.1, x.2.2⟩
def BD (a : Addr) (xs : List (List Bool × Addr × V)) : HO := .ext fun h => (a == sysModules) = false ∧ ∃ zs : List (List Bool × Addr × Value),
  Paired (fun (p : List Bool × Addr × V) (q : List Bool × Addr × Value) => p.1 = q.1 ∧ p.2.1 = q.2.1 ∧ RelV p.2.2 q.2.2) xs zs ∧
  ∃ o es ep, h.get? a = some o ∧ o.ExactDict ∧ o.data = .dict es ep ∧ es.toList = zs.map bEnt ∧ (zs.map (·.1)).Nodup
mutual
def Rep (K : PySem.W.Frag) (F : Hp) : T → V → Prop
  | .non, v => v = .non
  | .bl b, v => v = .bl b
  | .int i, v => v = .int i
  | .str x, v => v = .str x
  | .tup ts, v => ∃ a vs, v = .ref a ∧ SqT K F a vs ∧ vs.length ≤ sizeLine ∧ Reps K F ts vs
  | .lst ts, v => ∃ a vs, v = .ref a ∧ F a = some (.lst vs) ∧ vs.length ≤ sizeLine ∧ Reps K F ts vs
  | .dct ks ts, v => ∃ a kvs, v = .ref a ∧ Rd F a (.dK kvs) ∧ kvs.length ≤ sizeLine ∧ kvs.map (·.1) = ks ∧ Reps K F ts (kvs.map (·.2))
  | .scr ns, v => ∃ a, v = .ref a ∧ SqL K F a (ns.map V.int) ∧ ns.length ≤ sizeLine
  | .oth u, v => v = u
  | .ins ns ts, v => ∃ a C dx vs, v = .ref a ∧ F a = some (.ins C dx (ns.zip vs)) ∧ Cls K C ∧ (∀ n ∈ ns, NoAttr K C n) ∧ ns.length = vs.length ∧ Reps K F ts vs
  | .bdt ks ts, v => ∃ a xs, v = .ref a ∧ F a = some (BD a xs) ∧ xs.length ≤ sizeLine ∧ xs.map (·.1) = ks ∧ (∀ x ∈ xs, SqT K F x.2.1 (x.1.map V.bl)) ∧ Reps K F ts (xs.map (·.2.2))
  | .obj u _, v => v = u
  | .lat u _, v => v = u
  | .exn c, v => ∃ a C, v = .ref a ∧ F a = some (ExO (.ref C) a) ∧ PySem.W.nsIn K mainGlobals (Str.ofString c) = some (some (.ref C))
def Reps (K : PySem.W.Frag) (F : Hp) : List T → List V → Prop
  | [], vs => vs = []
  | t :: ts, vs => ∃ v r, vs = v :: r ∧ Rep K F t v ∧ Reps K F ts r
end
section
variable {K : PySem.W.Frag} {F F' H H' : Hp}
theorem Rd.mono {a : Addr} {u : HO} (s : Same F F') (h : Rd F a u) : Rd F' a u := by
  rcases h with h | ⟨o, h⟩
  · exact .inl (s _ _ h)
  · exact .inr ⟨o, s _ _ h⟩
theorem SqT.mono {a : Addr} {xs : List V} (s : Same F F') (h : SqT K F a xs) : SqT K F' a xs := by
  rcases h with h | h
  · exact .inl (Rd.mono s h)
  · exact .inr h
mutual
theorem Rep.mono (s : Same F F') : ∀ (t : T) (v : V), Rep K F t v → Rep K F' t v
  | .non, _, h => h
  | .bl _, _, h => h
  | .int _, _, h => h
  | .str _, _, h => h
  | .tup ts, _, ⟨a, vs, e, q, z, r⟩ => ⟨a, vs, e, SqT.mono s q, z, Reps.mono s ts vs r⟩
  | .lst ts, _, ⟨a, vs, e, q, z, r⟩ => ⟨a, vs, e, s _ _ q, z, Reps.mono s ts vs r⟩
  | .dct ks ts, _, ⟨a, kvs, e, q, z, k, r⟩ => ⟨a, kvs, e, Rd.mono s q, z, k, Reps.mono s ts _ r⟩
  | .scr _, _, ⟨a, e, q, z⟩ => ⟨a, e, s.seq q, z⟩
  | .oth _, _, h => h
  | .ins _ ts, _, ⟨a, C, dx, vs, e, q, c, n, l, r⟩ => ⟨a, C, dx, vs, e, s _ _ q, c, n, l, Reps.mono s ts vs r⟩
  | .bdt _ ts, _, ⟨a, xs, e, q, z, k, t, r⟩ => ⟨a, xs, e, s _ _ q, z, k, fun x hx => SqT.mono s (t x hx), Reps.mono s ts _ r⟩
  | .obj _ _, _, h => h
  | .lat _ _, _, h => h
  | .exn _, _, ⟨a, C, e, h, n⟩ => ⟨a, C, e, s _ _ h, n⟩
theorem Reps.mono (s : Same F F') : ∀ (ts : List T) (vs : List V), Reps K F ts vs → Reps K F' ts vs
  | [], _, h => h
  | t :: ts, _, ⟨v, r, e, h1, h2⟩ => ⟨v, r, e, Rep.mono s t v h1, Reps.mono s ts r h2⟩
end
theorem Reps.len : ∀ {ts : List T} {vs : List V}, Reps K F ts vs → ts.length = vs.length
  | [], _, h => by rw [show _ = [] from h]; rfl
  | t :: ts, _, ⟨v, r, e, _, h2⟩ => by rw [e, List.length_cons, List.length_cons, Reps.len h2]
theorem Reps.get : ∀ {ts : List T} {vs : List V} {i : Nat} {t : T}, Reps K F ts vs → ts[i]? = some t → ∃ v, vs[i]? = some v ∧ Rep K F t v
  | [], _, _, _, _, e => by simp at e
  | t :: ts, _, 0, _, ⟨v, r, e, h1, _⟩, g => by
    subst e
    simp at g
    subst g
    exact ⟨v, rfl, h1⟩
  | t :: ts, _, i + 1, _, ⟨v, r, e, _, h2⟩, g => by
    subst e
    simpa using Reps.get h2 (by simpa using g)
theorem Reps.append : ∀ {ts us : List T} {vs ws : List V}, Reps K F ts vs → Reps K F us ws → Reps K F (ts ++ us) (vs ++ ws)
  | [], _, _, _, h, h' => by rw [show _ = [] from h]; exact h'
  | t :: ts, _, _, _, ⟨v, r, e, h1, h2⟩, h' => by
    subst e
    exact ⟨v, _, rfl, h1, Reps.append h2 h'⟩
theorem Reps.take : ∀ {ts : List T} {vs : List V} (n : Nat), Reps K F ts vs → Reps K F (ts.take n) (vs.take n)
  | _, _, 0, _ => rfl
  | [], _, _ + 1, h => by rw [show _ = [] from h]; exact rfl
  | t :: ts, _, n + 1, ⟨v, r, e, h1, h2⟩ => by
    subst e
    exact ⟨v, _, rfl, h1, Reps.take n h2⟩
theorem Reps.drop : ∀ {ts : List T} {vs : List V} (n : Nat), Reps K F ts vs → Reps K F (ts.drop n) (vs.drop n)
  | _, _, 0, h => h
  | [], _, _ + 1, h => by rw [show _ = [] from h]; exact rfl
  | t :: ts, _, n + 1, ⟨v, r, e, h1, h2⟩ => by
    subst e
    exact Reps.drop n h2
theorem Reps.set : ∀ {ts : List T} {vs : List V} {t : T} {v : V} (n : Nat), Rep K F t v → Reps K F ts vs → Reps K F (ts.set n t) (vs.set n v)
  | [], _, _, _, _, _, h => by rw [show _ = [] from h]; exact rfl
  | t :: ts, _, _, _, 0, hr, ⟨v, r, e, h1, h2⟩ => by
    subst e
    exact ⟨_, _, rfl, hr, h2⟩
  | t :: ts, _, _, _, n + 1, hr, ⟨v, r, e, h1, h2⟩ => by
    subst e
    exact ⟨v, _, rfl, h1, Reps.set n hr h2⟩
theorem Reps.reverse : ∀ {ts : List T} {vs : List V}, Reps K F ts vs → Reps K F ts.reverse vs.reverse
  | [], _, h => by rw [show _ = [] from h]; exact rfl
  | t :: ts, _, ⟨v, r, e, h1, h2⟩ => by
    subst e
    rw [List.reverse_cons, List.reverse_cons]
    exact Reps.append (Reps.reverse h2) ⟨v, [], rfl, h1, rfl⟩
theorem Reps.ints : ∀ {ns : List Int} {vs : List V}, Reps K F (ns.map T.int) vs ↔ vs = ns.map V.int
  | [], vs => Iff.rfl
  | n :: ns, vs => by
    constructor
    · rintro ⟨v, r, e, h1, h2⟩
      rw [e, show v = V.int n from h1, Reps.ints.mp h2]
      rfl
    · intro e
      exact ⟨V.int n, ns.map V.int, e, rfl, Reps.ints.mpr rfl⟩
theorem Reps.bls : ∀ {ns : List Bool} {vs : List V}, Reps K F (ns.map T.bl) vs ↔ vs = ns.map V.bl
  | [], vs => Iff.rfl
  | n :: ns, vs => by
    constructor
    · rintro ⟨v, r, e, h1, h2⟩
      rw [e, show v = V.bl n from h1, Reps.bls.mp h2]
      rfl
    · intro e
      exact ⟨V.bl n, ns.map V.bl, e, rfl, Reps.bls.mpr rfl⟩
end

inductive Kd where
  | frz | own | arg (j : Nat)
  deriving DecidableEq
structure Sl where
  k : Kd
  l : Bool
  t : T
abbrev TSt := List (Option Sl)

/-- the fields of an object of the text that changes, in the order in which they are made -/
def deskNs : List Str := ["rule", "begin", "past"]
def OwnAt (K : PySem.W.Frag) (F H : Hp) (a : Addr) : T → Prop
  | .lst ts => ∃ vs, H a = some (.lst vs) ∧ vs.length ≤ sizeLine ∧ Reps K F ts vs
  | .dct ks ts => ∃ kvs, H a = some (.dK kvs) ∧ kvs.length ≤ sizeLine ∧ kvs.map (·.1) = ks ∧ Reps K F ts (kvs.map (·.2))
  | .bdt ks ts => ∃ xs, H a = some (BD a xs) ∧ xs.length ≤ sizeLine ∧ xs.map (·.1) = ks ∧ (∀ x ∈ xs, SqT K F x.2.1 (x.1.map V.bl)) ∧ Reps K F ts (xs.map (·.2.2))
  | .obj u ts => u = .ref a ∧ ∃ C dx vs, H a = some (.ins C dx (deskNs.zip vs)) ∧ PySem.W.nsIn K mainGlobals "Desk" = some (some (.ref C)) ∧ vs.length = 3 ∧ Reps K F ts vs
  | .lat u ts => u = .ref a ∧ ∃ vs, H a = some (.lst vs) ∧ vs.length ≤ sizeLine ∧ Reps K F ts vs
  | _ => False
theorem OwnAt.ex {K : PySem.W.Frag} {F H : Hp} {a : Addr} : ∀ {t : T}, OwnAt K F H a t → ∃ o, H a = some o
  | .lst _, ⟨_, h, _⟩ => ⟨_, h⟩
  | .dct _ _, ⟨_, h, _⟩ => ⟨_, h⟩
  | .bdt _ _, ⟨_, h, _⟩ => ⟨_, h⟩
  | .obj _ _, ⟨_, _, _, _, h, _⟩ => ⟨_, h⟩
  | .lat _ _, ⟨_, _, h, _⟩ => ⟨_, h⟩
theorem OwnAt.mono {K : PySem.W.Frag} {F F' H H' : Hp} {a : Addr} (s : Same F F') (e : H' a = H a) : ∀ {t : T}, OwnAt K F H a t → OwnAt K F' H' a t
  | .lst _, ⟨vs, h, z, r⟩ => ⟨vs, e.trans h, z, Reps.mono s _ _ r⟩
  | .dct _ _, ⟨kvs, h, z, k, r⟩ => ⟨kvs, e.trans h, z, k, Reps.mono s _ _ r⟩
  | .bdt _ _, ⟨xs, h, z, k, t, r⟩ => ⟨xs, e.trans h, z, k, fun x hx => SqT.mono s (t x hx), Reps.mono s _ _ r⟩
  | .obj _ _, ⟨u, C, dx, vs, h, c, l, r⟩ => ⟨u, C, dx, vs, e.trans h, c, l, Reps.mono s _ _ r⟩
  | .lat _ _, ⟨u, vs, h, z, r⟩ => ⟨u, vs, e.trans h, z, Reps.mono s _ _ r⟩
/-- slot i owns the object at a -/
def Owns (σ : St) (τ : TSt) (i : Nat) (k : Kd) (a : Addr) : Prop := ∃ l t, τ[i]? = some (some ⟨k, l, t⟩) ∧ k ≠ .frz ∧ σ[i]? = some (some (.ref a))
structure WF (K : PySem.W.Frag) (F H : Hp) (σ : St) (τ : TSt) : Prop where
  sub : Same F H
  len : τ.length = σ.length
  frz : ∀ (i : Nat) (l : Bool) (t : T), τ[i]? = some (some ⟨.frz, l, t⟩) → ∃ v, σ[i]? = some (some v) ∧ Rep K F t v
  own : ∀ (i : Nat) (k : Kd) (l : Bool) (t : T), τ[i]? = some (some ⟨k, l, t⟩) → k ≠ .frz → ∃ a, σ[i]? = some (some (.ref a)) ∧ F a = none ∧ OwnAt K F H a t
  sep : ∀ (i j : Nat) (k l : Kd) (a : Addr), Owns σ τ i k a → Owns σ τ j l a → i = j
structure Stp (F H : Hp) (σ : St) (τ : TSt) (F' H' : Hp) (τ' : TSt) : Prop where
  sub : Same F F'
  new : ∀ a, F' a ≠ none → F a ≠ none ∨ H a = none ∨ ∃ i, Owns σ τ i .own a
  fr : ∀ a o, H a = some o → (∀ i k, ¬ Owns σ τ i k a) → H' a = some o
  dom : ∀ a, H a ≠ none → H' a ≠ none
  own : ∀ i k a, Owns σ τ' i k a → Owns σ τ i k a
  slot : ∀ (i : Nat) (s : Sl), τ[i]? = some (some s) → ∃ s', τ'[i]? = some (some s')
  lock : ∀ (i : Nat) (k : Kd) (t : T), τ[i]? = some (some ⟨k, true, t⟩) → τ'[i]? = some (some ⟨k, true, t⟩)
/-- the base of a def: its entry, the addresses of the objects that it may change -/
structure Bs where
  F : Hp
  H : Hp
  args : List (Option Addr)
structure Inn (K : PySem.W.Frag) (B : Bs) (F H : Hp) (σ : St) (τ : TSt) : Prop where
  wf : WF K F H σ τ
  sub : Same B.F F
  new : ∀ a, F a ≠ none → B.F a ≠ none ∨ B.H a = none
  fr : ∀ a o, B.H a = some o → some a ∉ B.args → H a = some o
  dom : ∀ a, B.H a ≠ none → H a ≠ none
  ow : ∀ i a, Owns σ τ i .own a → B.H a = none
  ar : ∀ i j a, Owns σ τ i (.arg j) a → B.args[j]? = some (some a)

section
variable {K : PySem.W.Frag} {B : Bs} {F H F1 H1 F2 H2 : Hp} {σ : St} {τ τ1 τ2 : TSt}
theorem Stp.refl : Stp F H σ τ F H τ := ⟨fun _ _ h => h, fun _ h => .inl h, fun _ _ h _ => h, fun _ h => h, fun _ _ _ h => h, fun _ s h => ⟨s, h⟩, fun _ _ _ h => h⟩
theorem Stp.trans (a : Stp F H σ τ F1 H1 τ1) (b : Stp F1 H1 σ τ1 F2 H2 τ2) : Stp F H σ τ F2 H2 τ2 where
  sub := a.sub.trans b.sub
  new := fun x h => by
    rcases b.new x h with h | h | ⟨i, h⟩
    · exact a.new x h
    · refine .inr (.inl ?_)
      cases e : H x with
      | none => rfl
      | some o => exact absurd h (a.dom x (by rw [e]; simp))
    · exact .inr (.inr ⟨i, a.own i _ x h⟩)
  fr := fun x o h n => b.fr x o (a.fr x o h n) fun i k q => n i k (a.own i k x q)
  dom := fun x h => b.dom x (a.dom x h)
  own := fun i k x h => a.own i k x (b.own i k x h)
  slot := fun i s h => by
    obtain ⟨s1, h1⟩ := a.slot i s h
    exact b.slot i s1 h1
  lock := fun i k t h => b.lock i k t (a.lock i k t h)
theorem Inn.step (I : Inn K B F H σ τ) (w : WF K F1 H1 σ τ1) (s : Stp F H σ τ F1 H1 τ1) : Inn K B F1 H1 σ τ1 where
  wf := w
  sub := I.sub.trans s.sub
  new := fun a h => by
    rcases s.new a h with h | h | ⟨i, h⟩
    · exact I.new a h
    · refine .inr ?_
      cases e : B.H a with
      | none => rfl
      | some o => exact absurd h (I.dom a (by rw [e]; simp))
    · exact .inr (I.ow i a h)
  fr := fun a o h n => s.fr a o (I.fr a o h n) fun i k q => by
    cases k with
    | frz => obtain ⟨_, _, _, z, _⟩ := q; exact z rfl
    | own => rw [I.ow i a q] at h; cases h
    | arg j => exact n (List.mem_of_getElem? (I.ar i j a q))
  dom := fun a h => s.dom a (I.dom a h)
  ow := fun i a h => I.ow i a (s.own i _ a h)
  ar := fun i j a h => I.ar i j a (s.own i _ a h)
end

inductive R where
  | val (own : Bool) (t : T) | var (i : Nat)
def slT (τ : TSt) (i : Nat) : T := match τ[i]? with
  | some (some s) => s.t
  | _ => .non
def R.t (τ : TSt) : R → T
  | .val _ t => t
  | .var i => slT τ i
def RR (K : PySem.W.Frag) (F H : Hp) (σ : St) (τ : TSt) (v : V) : R → Prop
  | .val false t => Rep K F t v
  | .val true t => ∃ p, v = .ref p ∧ F p = none ∧ OwnAt K F H p t ∧ ∀ i k, ¬ Owns σ τ i k p
  | .var i => σ[i]? = some (some v) ∧ ∃ s, τ[i]? = some (some s)
def Fresh (H : Hp) (v : V) : R → Prop
  | .val true _ => ∃ p, v = .ref p ∧ H p = none
  | _ => True
/-- what may be read now -/
def RdT (K : PySem.W.Frag) (F H : Hp) (v : V) (t : T) : Prop := Rep K F t v ∨ ∃ p, v = .ref p ∧ F p = none ∧ OwnAt K F H p t
section
variable {K : PySem.W.Frag} {B : Bs} {F H F1 H1 F2 H2 : Hp} {σ : St} {τ τ1 τ2 : TSt} {v : V} {r : R}
theorem RR.rd (w : WF K F H σ τ) : ∀ {r : R}, RR K F H σ τ v r → RdT K F H v (r.t τ)
  | .val false _, h => .inl h
  | .val true _, ⟨p, e, n, o, _⟩ => .inr ⟨p, e, n, o⟩
  | .var i, ⟨e, ⟨k, l, t⟩, h⟩ => by
    have et : R.t τ (.var i) = t := by simp [R.t, slT, h]
    rw [et]
    by_cases hk : k = .frz
    · subst hk
      obtain ⟨v', e', q⟩ := w.frz i l t h
      rw [e] at e'
      cases e'
      exact .inl q
    · obtain ⟨a, e', n, q⟩ := w.own i k l t h hk
      rw [e] at e'
      cases e'
      exact .inr ⟨a, rfl, n, q⟩
theorem RR.step (s : Stp F H σ τ F1 H1 τ1) : ∀ {r : R}, RR K F H σ τ v r → RR K F1 H1 σ τ1 v r
  | .val false _, h => Rep.mono s.sub _ _ h
  | .val true _, ⟨p, e, n, o, no⟩ => by
    obtain ⟨ob, ho⟩ := o.ex
    have e1 : H1 p = some ob := s.fr p ob ho no
    refine ⟨p, e, ?_, o.mono s.sub (e1.trans ho.symm), fun i k q => no i k (s.own i k p q)⟩
    cases q : F1 p with
    | none => rfl
    | some u =>
      rcases s.new p (by rw [q]; simp) with z | z | ⟨i, z⟩
      · exact absurd n z
      · rw [ho] at z; cases z
      · exact absurd z (no i _)
  | .var i, ⟨e, s', h⟩ => ⟨e, s.slot i s' h⟩
theorem Fresh.step (s : Stp F H σ τ F1 H1 τ1) : ∀ {r : R}, Fresh H1 v r → Fresh H v r
  | .val false _, _ => trivial
  | .val true _, ⟨p, e, n⟩ => ⟨p, e, by
    cases q : H p with
    | none => rfl
    | some o => exact absurd n (s.dom p (by rw [q]; simp))⟩
  | .var _, _ => trivial
end

structure Grow (F H F' H' : Hp) : Prop where
  sub : Same F F'
  hp : Same H H'
  new : ∀ a, F' a ≠ none → F a ≠ none ∨ H a = none
  in_ : Same F' H'
def RG (K : PySem.W.Frag) (H F' H' : Hp) (v : V) : Bool → T → Prop
  | false, t => Rep K F' t v
  | true, t => ∃ p, v = .ref p ∧ H p = none ∧ F' p = none ∧ OwnAt K F' H' p t
section
variable {K : PySem.W.Frag} {B : Bs} {F H F1 H1 : Hp} {σ : St} {τ : TSt} {v : V}
theorem Grow.refl (s : Same F H) : Grow F H F H := ⟨fun _ _ h => h, fun _ _ h => h, fun _ h => .inl h, s⟩
theorem same_upd {H : Hp} {p : Addr} {o : HO} (h : H p = none) : Same H (upd H p o) := fun b x e => by
  rw [upd_ne (ne_of_none e h)]
  exact e
theorem Grow.own {p : Addr} {o : HO} (s : Same F H) (n : H p = none) : Grow F H F (upd H p o) :=
  ⟨fun _ _ h => h, same_upd n, fun _ h => .inl h, s.trans (same_upd n)⟩
theorem Grow.frz {p : Addr} {o : HO} (s : Same F H) (n : H p = none) : Grow F H (upd F p o) (upd H p o) := by
  have nF : F p = none := s.free n
  refine ⟨same_upd nF, same_upd n, fun a h => ?_, fun b x e => ?_⟩
  · by_cases e : a = p
    · subst e; exact .inr n
    · rw [upd_ne e] at h; exact .inl h
  · by_cases hb : b = p
    · subst hb; rw [upd_same] at e ⊢; exact e
    · rw [upd_ne hb] at e ⊢; exact s b x e
theorem Grow.wf (g : Grow F H F1 H1) (w : WF K F H σ τ) : WF K F1 H1 σ τ where
  sub := g.in_
  len := w.len
  frz := fun i l t h => by
    obtain ⟨v, e, r⟩ := w.frz i l t h
    exact ⟨v, e, Rep.mono g.sub _ _ r⟩
  own := fun i k l t h hk => by
    obtain ⟨a, e, n, o⟩ := w.own i k l t h hk
    obtain ⟨ob, ho⟩ := o.ex
    refine ⟨a, e, ?_, o.mono g.sub ((g.hp a ob ho).trans ho.symm)⟩
    cases q : F1 a with
    | none => rfl
    | some u =>
      rcases g.new a (by rw [q]; simp) with z | z
      · exact absurd n z
      · rw [ho] at z; cases z
  sep := w.sep
theorem Grow.step (g : Grow F H F1 H1) : Stp F H σ τ F1 H1 τ :=
  ⟨g.sub, fun a h => (g.new a h).elim .inl fun z => .inr (.inl z), fun a o h _ => g.hp a o h, fun a h => by
    cases q : H a with
    | none => exact absurd q h
    | some o => rw [g.hp a o q]; simp, fun _ _ _ h => h, fun _ s h => ⟨s, h⟩, fun _ _ _ h => h⟩
theorem RG.rr (w : WF K F H σ τ) (g : Grow F H F1 H1) : ∀ {k : Bool} {t : T}, RG K H F1 H1 v k t → RR K F1 H1 σ τ v (.val k t) ∧ Fresh H v (.val k t)
  | false, _, h => ⟨h, trivial⟩
  | true, _, ⟨p, e, n, nF, o⟩ => ⟨⟨p, e, nF, o, fun i k q => by
      obtain ⟨l, t, h1, hk, h2⟩ := q
      obtain ⟨a, h3, _, o'⟩ := w.own i k l t h1 hk
      rw [h2] at h3
      cases h3
      obtain ⟨ob, ho⟩ := o'.ex
      rw [ho] at n
      cases n⟩, p, e, n⟩
end

abbrev TTE := TSt → (R → TSt → Prop) → Prop
abbrev TTA := TSt → (List R → TSt → Prop) → Prop
abbrev TTT := TSt → (Bool → TSt → Prop) → Prop
def lift (K : PySem.W.Frag) (B : Bs) (t : TTE) : TE := fun σ H Q => ∃ F τ P, Inn K B F H σ τ ∧ t τ P ∧
  ∀ r τ' F' H' v, P r τ' → Inn K B F' H' σ τ' → Stp F H σ τ F' H' τ' → RR K F' H' σ τ' v r → Fresh H v r → Q v H'
def liftT (K : PySem.W.Frag) (B : Bs) (t : TTT) : TT := fun σ H Q => ∃ F τ P, Inn K B F H σ τ ∧ t τ P ∧
  ∀ b τ' F' H', P b τ' → Inn K B F' H' σ τ' → Stp F H σ τ F' H' τ' → Q b H'
inductive RRs (K : PySem.W.Frag) (F H : Hp) (σ : St) (τ : TSt) : List V → List R → Prop
  | nil : RRs K F H σ τ [] []
  | cons {v : V} {vs : List V} {r : R} {rs : List R} : RR K F H σ τ v r → (∀ t, r ≠ .val true t) → RRs K F H σ τ vs rs → RRs K F H σ τ (v :: vs) (r :: rs)
def liftA (K : PySem.W.Frag) (B : Bs) (t : TTA) : TA := fun σ H Q => ∃ F τ P, Inn K B F H σ τ ∧ t τ P ∧
  ∀ rs τ' F' H' vs, P rs τ' → Inn K B F' H' σ τ' → Stp F H σ τ F' H' τ' → RRs K F' H' σ τ' vs rs → Q vs H'
structure TPE (X : Cx) (B : Bs) (e : Expr) (t : TTE) : Prop where
  pe : PE X e (lift X.K B t)
structure TPT (X : Cx) (B : Bs) (e : Expr) (t : TTT) : Prop where
  pt : PT X e (liftT X.K B t)
structure TPW (X : Cx) (B : Bs) (e : Expr) (t : TTT) : Prop where
  pw : PW X e (liftT X.K B t)
structure TPA (X : Cx) (B : Bs) (es : List Expr) (t : TTA) : Prop where
  pa : PA X es (liftA X.K B t)
theorem PE.imp {X : Cx} {e : Expr} {t u : TE} (h : PE X e t) (i : ∀ σ H Q, u σ H Q → t σ H Q) : PE X e u := ⟨fun pins s σ H Q I q => h.run pins s σ H Q I (i σ H Q q)⟩
theorem PT.imp {X : Cx} {e : Expr} {t u : TT} (h : PT X e t) (i : ∀ σ H Q, u σ H Q → t σ H Q) : PT X e u := ⟨fun pins s σ H Q I q => h.run pins s σ H Q I (i σ H Q q)⟩
theorem PW.imp {X : Cx} {e : Expr} {t u : TT} (h : PW X e t) (i : ∀ σ H Q, u σ H Q → t σ H Q) : PW X e u := ⟨fun wh pins s σ H Q I q => h.run wh pins s σ H Q I (i σ H Q q)⟩
theorem PA.imp {X : Cx} {e : List Expr} {t u : TA} (h : PA X e t) (i : ∀ σ H Q, u σ H Q → t σ H Q) : PA X e u := ⟨fun pos pins s σ H Q I q => h.run pos pins s σ H Q I (i σ H Q q)⟩
theorem PS.imp {X : Cx} {e : Stmt} {t u : TS} (h : PS X e t) (i : ∀ D σ H, u D σ H → t D σ H) : PS X e u := ⟨fun pins s σ H D I q => h.run pins s σ H D I (i D σ H q)⟩
theorem PSs.imp {X : Cx} {e : List Stmt} {t u : TS} (h : PSs X e t) (i : ∀ D σ H, u D σ H → t D σ H) : PSs X e u := ⟨fun pins s σ H D I q => h.run pins s σ H D I (i D σ H q)⟩

/-- going on with an expression -/
theorem lift.go {K : PySem.W.Frag} {B : Bs} {t : TTE} {σ : St} {F H : Hp} {τ : TSt} {P : R → TSt → Prop} {Q : VK} (I : Inn K B F H σ τ) (h : t τ P)
    (q : ∀ r τ' F' H' v, P r τ' → Inn K B F' H' σ τ' → Stp F H σ τ F' H' τ' → RR K F' H' σ τ' v r → Fresh H v r → Q v H') : lift K B t σ H Q := ⟨F, τ, P, I, h, q⟩
end TL

namespace TL
open PySem L2
section
variable {K : PySem.W.Frag} {F H F1 H1 : Hp} {v : V}
theorem RdT.lst {ts : List T} (s : Same F H) (h : RdT K F H v (.lst ts)) : ∃ a vs, v = .ref a ∧ H a = some (.lst vs) ∧ vs.length ≤ sizeLine ∧ Reps K F ts vs := by
  rcases h with ⟨a, vs, e, q, z, r⟩ | ⟨p, e, _, vs, q, z, r⟩
  · exact ⟨a, vs, e, s _ _ q, z, r⟩
  · exact ⟨p, vs, e, q, z, r⟩
theorem RdT.tup {ts : List T} (h : RdT K F H v (.tup ts)) : ∃ a vs, v = .ref a ∧ SqT K F a vs ∧ vs.length ≤ sizeLine ∧ Reps K F ts vs := by
  rcases h with h | ⟨p, e, _, h⟩
  · exact h
  · exact h.elim
theorem RdT.scr {ns : List Int} (h : RdT K F H v (.scr ns)) : ∃ a, v = .ref a ∧ SqL K F a (ns.map V.int) ∧ ns.length ≤ sizeLine := by
  rcases h with h | ⟨p, e, _, h⟩
  · exact h
  · exact h.elim
theorem RdT.dct {ks : List Key} {ts : List T} (s : Same F H) (h : RdT K F H v (.dct ks ts)) : ∃ a kvs, v = .ref a ∧ Rd H a (.dK kvs) ∧ kvs.length ≤ sizeLine ∧ kvs.map (·.1) = ks ∧ Reps K F ts (kvs.map (·.2)) := by
  rcases h with ⟨a, vs, e, q, z, k, r⟩ | ⟨p, e, _, vs, q, z, k, r⟩
  · exact ⟨a, vs, e, Rd.mono s q, z, k, r⟩
  · exact ⟨p, vs, e, .inl q, z, k, r⟩
theorem RdT.bdt {ks : List (List Bool)} {ts : List T} (s : Same F H) (h : RdT K F H v (.bdt ks ts)) : ∃ a xs, v = .ref a ∧ H a = some (BD a xs) ∧ xs.length ≤ sizeLine ∧ xs.map (·.1) = ks ∧ (∀ x ∈ xs, SqT K F x.2.1 (x.1.map V.bl)) ∧ Reps K F ts (xs.map (·.2.2)) := by
  rcases h with ⟨a, xs, e, q, z, k, t, r⟩ | ⟨p, e, _, xs, q, z, k, t, r⟩
  · exact ⟨a, xs, e, s _ _ q, z, k, t, r⟩
  · exact ⟨p, xs, e, q, z, k, t, r⟩
theorem RdT.int {i : Int} (h : RdT K F H v (.int i)) : v = .int i := h.elim id fun ⟨_, _, _, h⟩ => h.elim
theorem RdT.bl {i : Bool} (h : RdT K F H v (.bl i)) : v = .bl i := h.elim id fun ⟨_, _, _, h⟩ => h.elim
theorem RdT.str {i : Str} (h : RdT K F H v (.str i)) : v = .str i := h.elim id fun ⟨_, _, _, h⟩ => h.elim
theorem RdT.non (h : RdT K F H v .non) : v = .non := h.elim id fun ⟨_, _, _, h⟩ => h.elim
theorem RdT.oth {u : V} (h : RdT K F H v (.oth u)) : v = u := h.elim id fun ⟨_, _, _, h⟩ => h.elim
end

abbrev G2 := T → T → (Bool → T → Prop) → Prop
def OpT (X : Cx) (f : Value → Value → Sem Value) (g : G2) : Prop :=
  ∃ r : R2, OpR X f r ∧ ∀ (F H : Hp) (x y : V) (tx ty : T) (G : Bool → T → Prop) (Q : VK), Same F H → RdT X.K F H x tx → RdT X.K F H y ty → g tx ty G →
    (∀ k t v F' H', G k t → Grow F H F' H' → RG X.K H F' H' v k t → Q v H') → r x y H Q
section
variable {X : Cx} {B : Bs}
def tv (i : Nat) : TTE := fun τ P => (∃ s, τ[i]? = some (some s)) ∧ P (.var i) τ
theorem tpe_v (i : Nat) {x : Str} {pos : Pos} (hN : X.N[i]? = some x := by rfl) (hv : Vis X.env.scope x := by first | exact Or.inl rfl | exact Or.inr (Or.inl rfl) | exact Or.inr (Or.inr rfl)) (hd : (x == ("__debug__" : Str)) = false := by decide)
    (hcd : (x == ("__classdict__" : Str)) = false := by decide) : TPE X B (.Name x pos) (tv i) := by
  refine ⟨PE.imp (pe_var hN hv hd hcd) fun σ H Q h => ?_⟩
  obtain ⟨F, τ, P, I, ⟨⟨s, hs⟩, hp⟩, hq⟩ := h
  obtain ⟨v, hv⟩ : ∃ v, σ[i]? = some (some v) := by
    obtain ⟨k, l, t⟩ := s
    by_cases hk : k = .frz
    · subst hk
      obtain ⟨v, e, _⟩ := I.wf.frz i l t hs
      exact ⟨v, e⟩
    · obtain ⟨a, e, _⟩ := I.wf.own i k l t hs hk
      exact ⟨_, e⟩
  exact ⟨v, hv, hq _ _ _ _ _ hp I Stp.refl ⟨hv, s, hs⟩ trivial⟩
def tk (t : T) : TTE := fun τ P => P (.val false t) τ
theorem tpe_k {e : Expr} {t : T} {v : V} (h : PE X e (tC v)) (r : ∀ K F, Rep K F t v) : TPE X B e (tk t) := by
  refine ⟨PE.imp h fun σ H Q h => ?_⟩
  obtain ⟨F, τ, P, I, hp, hq⟩ := h
  exact hq _ _ _ _ _ hp I Stp.refl (r _ _) trivial
theorem tpe_int {i j pos} : TPE X B (.Constant (.int i) j pos) (tk (.int i)) := tpe_k pe_int fun _ _ => rfl
theorem tpe_bl {i j pos} : TPE X B (.Constant (.bool i) j pos) (tk (.bl i)) := tpe_k pe_bl fun _ _ => rfl
theorem tpe_non {j pos} : TPE X B (.Constant .none j pos) (tk .non) := tpe_k pe_non fun _ _ => rfl
theorem tpe_str {i j pos} : TPE X B (.Constant (.str i) j pos) (tk (.str i)) := tpe_k pe_str fun _ _ => rfl

def frzR : R → TSt → (T → TSt → Prop) → Prop
  | .val _ t, τ, P => P t τ
  | .var i, τ, P => match τ[i]? with
    | some (some ⟨.frz, _, t⟩) => P t τ
    | some (some ⟨.own, false, t⟩) => P t (τ.set i (some ⟨.frz, false, t⟩))
    | _ => False
theorem OwnAt.rep {F H : Hp} {K : PySem.W.Frag} {p : Addr} {o : HO} (n : F p = none) (ho : H p = some o) : ∀ {t : T}, OwnAt K F H p t → Rep K (upd F p o) t (.ref p)
  | .lst _, ⟨vs, h, z, r⟩ => by
    rw [ho] at h
    cases h
    exact ⟨p, vs, rfl, upd_same, z, Reps.mono (same_upd n) _ _ r⟩
  | .dct _ _, ⟨kvs, h, z, k, r⟩ => by
    rw [ho] at h
    cases h
    exact ⟨p, kvs, rfl, .inl upd_same, z, k, Reps.mono (same_upd n) _ _ r⟩
  | .bdt _ _, ⟨xs, h, z, k, t, r⟩ => by
    rw [ho] at h
    cases h
    exact ⟨p, xs, rfl, upd_same, z, k, fun x hx => SqT.mono (same_upd n) (t x hx), Reps.mono (same_upd n) _ _ r⟩
  | .obj _ _, ⟨u, _⟩ => u.symm
  | .lat _ _, ⟨u, _⟩ => u.symm
/-- freezing a fresh one, or a slot's own -/
theorem freeze {K : PySem.W.Frag} {F0 H0 F H : Hp} {σ : St} {τ0 τ : TSt} {v : V} {r : R} {P : T → TSt → Prop} (I0 : Inn K B F0 H0 σ τ0) (I : Inn K B F H σ τ) (s : Stp F0 H0 σ τ0 F H τ) (rr : RR K F H σ τ v r) (fr : Fresh H0 v r) (h : frzR r τ P) :
    ∃ t τ' F', P t τ' ∧ Inn K B F' H σ τ' ∧ Stp F0 H0 σ τ0 F' H τ' ∧ Rep K F' t v ∧ Same F F' ∧ (∀ (i : Nat) (s : Sl), τ[i]? = some (some s) → ∃ s' : Sl, τ'[i]? = some (some s') ∧ s'.t = s.t) := by
  cases r with
  | val k t =>
    cases k with
    | false => exact ⟨t, τ, F, h, I, s, rr, fun _ _ h => h, fun _ s h => ⟨s, h, rfl⟩⟩
    | true =>
      obtain ⟨p, rfl, n, o, no⟩ := rr
      obtain ⟨p', e, nf⟩ := fr
      cases e
      obtain ⟨ob, ho⟩ := o.ex
      have w : WF K (upd F p ob) H σ τ := by
        refine ⟨fun a u e => ?_, I.wf.len, fun i l t h => ?_, fun i k l t h hk => ?_, I.wf.sep⟩
        · by_cases ha : a = p
          · subst ha; rw [upd_same] at e; cases e; exact ho
          · rw [upd_ne ha] at e; exact I.wf.sub a u e
        · obtain ⟨v, e, q⟩ := I.wf.frz i l t h
          exact ⟨v, e, Rep.mono (same_upd n) _ _ q⟩
        · obtain ⟨a, e, nF, q⟩ := I.wf.own i k l t h hk
          have ha : a ≠ p := fun z => no i k ⟨l, t, h, hk, by rw [← z]; exact e⟩
          exact ⟨a, e, by rw [upd_ne ha]; exact nF, q.mono (same_upd n) rfl⟩
      have st : Stp F0 H0 σ τ0 (upd F p ob) H τ := by
        refine ⟨s.sub.trans (same_upd n), fun a h => ?_, s.fr, s.dom, s.own, s.slot, s.lock⟩
        by_cases ha : a = p
        · subst ha; exact .inr (.inl nf)
        · rw [upd_ne ha] at h; exact s.new a h
      exact ⟨t, τ, _, h, I0.step w st, st, OwnAt.rep n ho o, same_upd n, fun _ s h => ⟨s, h, rfl⟩⟩
  | var i =>
    obtain ⟨hv, ⟨k, l, t⟩, hs⟩ := rr
    simp only [frzR, hs] at h
    cases k with
    | frz =>
      obtain ⟨v', e, q⟩ := I.wf.frz i l t hs
      rw [hv] at e
      cases e
      exact ⟨t, τ, F, h, I, s, q, fun _ _ h => h, fun _ s h => ⟨s, h, rfl⟩⟩
    | arg j => exact h.elim
    | own =>
      cases l with
      | true => exact h.elim
      | false =>
      obtain ⟨p, e, n, o⟩ := I.wf.own i .own false t hs (by decide)
      rw [hv] at e
      cases e
      obtain ⟨ob, ho⟩ := o.ex
      have hi : i < τ.length := (List.getElem?_eq_some_iff.mp hs).1
      have oi : Owns σ τ i .own p := ⟨false, t, hs, by decide, hv⟩
      have sets : ∀ (j : Nat) (s : Option Sl), (τ.set i (some ⟨.frz, false, t⟩))[j]? = some s → (j = i ∧ s = some ⟨.frz, false, t⟩) ∨ (j ≠ i ∧ τ[j]? = some s) := fun j s e => by
        by_cases hj : j = i
        · subst hj
          rw [List.getElem?_set_self hi] at e
          exact .inl ⟨rfl, (Option.some.inj e).symm⟩
        · rw [List.getElem?_set_ne (Ne.symm hj)] at e
          exact .inr ⟨hj, e⟩
      have ownd : ∀ (j : Nat) (k : Kd) (a : Addr), Owns σ (τ.set i (some ⟨.frz, false, t⟩)) j k a → j ≠ i ∧ Owns σ τ j k a := fun j k a ⟨l, u, h1, h2, h3⟩ => by
        rcases sets j _ h1 with ⟨_, z⟩ | ⟨hj, z⟩
        · cases z; exact absurd rfl h2
        · exact ⟨hj, l, u, z, h2, h3⟩
      have w : WF K (upd F p ob) H σ (τ.set i (some ⟨.frz, false, t⟩)) := by
        refine ⟨fun a u e => ?_, by rw [List.length_set]; exact I.wf.len, fun j l u h => ?_, fun j k l u h hk => ?_, fun a b k l x h1 h2 => I.wf.sep a b k l x (ownd _ _ _ h1).2 (ownd _ _ _ h2).2⟩
        · by_cases ha : a = p
          · subst ha; rw [upd_same] at e; cases e; exact ho
          · rw [upd_ne ha] at e; exact I.wf.sub a u e
        · rcases sets j _ h with ⟨hj, z⟩ | ⟨hj, z⟩
          · cases z
            subst hj
            exact ⟨_, hv, OwnAt.rep n ho o⟩
          · obtain ⟨v, e, q⟩ := I.wf.frz j l u z
            exact ⟨v, e, Rep.mono (same_upd n) _ _ q⟩
        · rcases sets j _ h with ⟨hj, z⟩ | ⟨hj, z⟩
          · cases z; exact absurd rfl hk
          · obtain ⟨a, e, nF, q⟩ := I.wf.own j k l u z hk
            have ha : a ≠ p := fun y => by
              subst y
              exact hj (I.wf.sep j i k .own a ⟨l, u, z, hk, e⟩ oi)
            exact ⟨a, e, by rw [upd_ne ha]; exact nF, q.mono (same_upd n) rfl⟩
      have st : Stp F0 H0 σ τ0 (upd F p ob) H (τ.set i (some ⟨.frz, false, t⟩)) := by
        refine ⟨s.sub.trans (same_upd n), fun a h => ?_, s.fr, s.dom, fun j k a h => s.own j k a (ownd j k a h).2, fun j u h => ?_, fun j k u h => ?_⟩
        · by_cases ha : a = p
          · subst ha; exact .inr (.inr ⟨i, s.own i .own a oi⟩)
          · rw [upd_ne ha] at h; exact s.new a h
        · obtain ⟨u', h'⟩ := s.slot j u h
          by_cases hj : j = i
          · subst hj; exact ⟨_, List.getElem?_set_self hi⟩
          · exact ⟨u', by rw [List.getElem?_set_ne (Ne.symm hj)]; exact h'⟩
        · have h' := s.lock j k u h
          have hj : j ≠ i := fun z => by
            subst z
            rw [hs] at h'
            cases h'
          rw [List.getElem?_set_ne (Ne.symm hj)]
          exact h'
      refine ⟨t, _, _, h, I0.step w st, st, OwnAt.rep n ho o, same_upd n, fun j u hju => ?_⟩
      by_cases hj : j = i
      · subst hj
        rw [hs] at hju
        cases hju
        exact ⟨_, List.getElem?_set_self hi, rfl⟩
      · exact ⟨u, by rw [List.getElem?_set_ne (Ne.symm hj)]; exact hju, rfl⟩
def tf (t : TTE) : TTE := fun τ P => t τ fun r τ1 => frzR r τ1 fun u τ2 => P (.val false u) τ2
abbrev TTL := TSt → (List T → TSt → Prop) → Prop
def liftL (K : PySem.W.Frag) (B : Bs) (t : TTL) : TA := fun σ H Q => ∃ F τ P, Inn K B F H σ τ ∧ t τ P ∧
  ∀ ts τ' F' H' vs, P ts τ' → Inn K B F' H' σ τ' → Stp F H σ τ F' H' τ' → Reps K F' ts vs → Q vs H'
structure TPL (X : Cx) (B : Bs) (es : List Expr) (t : TTL) : Prop where
  pa : PA X es (liftL X.K B t)
def tlnil : TTL := fun τ P => P [] τ
def tlcons (te : TTE) (tl : TTL) : TTL := fun τ P => te τ fun r τ1 => frzR r τ1 fun t τ2 => tl τ2 fun ts τ3 => P (t :: ts) τ3
theorem tpl_nil : TPL X B [] tlnil := by
  refine ⟨PA.imp pa_nil fun σ H Q h => ?_⟩
  obtain ⟨F, τ, P, I, ht, hq⟩ := h
  exact hq _ _ _ _ _ ht I Stp.refl rfl
theorem tpl_cons {e : Expr} {es : List Expr} {te : TTE} {tl : TTL} (ha : TPE X B e te) (hr : TPL X B es tl) (hs : starEach (e :: es) X.env = (false, eval e X.env) :: starEach es X.env := by rfl) : TPL X B (e :: es) (tlcons te tl) := by
  refine ⟨PA.imp (pa_cons ha.pe hr.pa hs) fun σ H Q h => ?_⟩
  obtain ⟨F, τ, P, I, ht, hq⟩ := h
  refine lift.go I ht fun r τ1 F1 H1 v h1 I1 s1 r1 f1 => ?_
  obtain ⟨u, τ2, F2, hp, I2, s2, rep, _⟩ := freeze I I1 s1 r1 f1 h1
  refine ⟨F2, τ2, _, I2, hp, fun ts τ3 F3 H3 vs h3 I3 s3 r3 => ?_⟩
  exact hq _ _ _ _ _ h3 I3 (s2.trans s3) ⟨v, vs, rfl, Rep.mono s3.sub _ _ rep, r3⟩
def ttTup (tl : TTL) : TTE := fun τ P => tl τ fun ts τ1 => ts.length ≤ sizeLine ∧ P (.val false (.tup ts)) τ1
def ttLst (tl : TTL) : TTE := fun τ P => tl τ fun ts τ1 => ts.length ≤ sizeLine ∧ P (.val true (.lst ts)) τ1
variable {es : List Expr} {tl : TTL} {pos : Pos}
theorem tpe_tup {x1} (h : TPL X B es tl) : TPE X B (.Tuple es x1 pos) (ttTup tl) := by
  refine ⟨PE.imp (pe_tup h.pa) fun σ H Q h => ?_⟩
  obtain ⟨F, τ, P, I, ht, hq⟩ := h
  refine ⟨F, τ, _, I, ht, fun ts τ1 F1 H1 vs ⟨hl, hp⟩ I1 s1 r1 => ⟨by rw [← r1.len]; exact hl, fun p np => ?_⟩⟩
  have nF : F1 p = none := I1.wf.sub.free np
  have g : Grow F1 H1 (upd F1 p (.tup vs)) (upd H1 p (.tup vs)) := Grow.frz I1.wf.sub np
  obtain ⟨rr, fr⟩ := RG.rr (v := .ref p) (k := false) (t := .tup ts) I1.wf g ⟨p, vs, rfl, .inl (.inl upd_same), by rw [← r1.len]; exact hl, Reps.mono (same_upd nF) _ _ r1⟩
  exact hq _ _ _ _ _ hp (I1.step (g.wf I1.wf) g.step) (s1.trans g.step) rr trivial
theorem tpe_lst (h : TPL X B es tl) : TPE X B (.List es pos) (ttLst tl) := by
  refine ⟨PE.imp (pe_lst h.pa) fun σ H Q h => ?_⟩
  obtain ⟨F, τ, P, I, ht, hq⟩ := h
  refine ⟨F, τ, _, I, ht, fun ts τ1 F1 H1 vs ⟨hl, hp⟩ I1 s1 r1 => ⟨by rw [← r1.len]; exact hl, fun p np => ?_⟩⟩
  have nF : F1 p = none := I1.wf.sub.free np
  have g : Grow F1 H1 F1 (upd H1 p (.lst vs)) := Grow.own I1.wf.sub np
  obtain ⟨rr, fr⟩ := RG.rr (v := .ref p) (k := true) (t := .lst ts) I1.wf g ⟨p, rfl, np, nF, vs, upd_same, by rw [← r1.len]; exact hl, r1⟩
  exact hq _ _ _ _ _ hp (I1.step (g.wf I1.wf) g.step) (s1.trans g.step) rr (Fresh.step s1 fr)

def ttBin (g : G2) (ta tb : TTE) : TTE := fun τ P => ta τ fun ra τ1 => tb τ1 fun rb τ2 => g (ra.t τ2) (rb.t τ2) fun k t => P (.val k t) τ2
variable {a b c : Expr} {ta tb tc : TTE}
theorem bin_imp {f : Value → Value → Sem Value} {g : G2} {r : R2} (hg : ∀ (F H : Hp) (x y : V) (tx ty : T) (G : Bool → T → Prop) (Q : VK), Same F H → RdT X.K F H x tx → RdT X.K F H y ty → g tx ty G →
    (∀ k t v F' H', G k t → Grow F H F' H' → RG X.K H F' H' v k t → Q v H') → r x y H Q) (σ : St) (H : Hp) (Q : VK) (h : lift X.K B (ttBin g ta tb) σ H Q) : tOp r (lift X.K B ta) (lift X.K B tb) σ H Q := by
  obtain ⟨F, τ, P, I, ht, hq⟩ := h
  refine lift.go I ht fun ra τ1 F1 H1 x h1 I1 s1 r1 f1 => ?_
  refine lift.go I1 h1 fun rb τ2 F2 H2 y h2 I2 s2 r2 f2 => ?_
  refine hg F2 H2 x y _ _ _ Q I2.wf.sub ((r1.step s2).rd I2.wf) (r2.rd I2.wf) h2 fun k t v F' H' gk gr rg => ?_
  obtain ⟨rr, fr⟩ := RG.rr I2.wf gr rg
  exact hq _ _ _ _ _ gk (I2.step (gr.wf I2.wf) gr.step) ((s1.trans s2).trans gr.step) rr (Fresh.step (s1.trans s2) fr)
theorem tpe_bin {op : Operator} {g : G2} (ho : OpT X (binaryOp op) g) (ha : TPE X B a ta) (hb : TPE X B b tb) : TPE X B (.BinOp a op b pos) (ttBin g ta tb) := by
  obtain ⟨r, hr, hg⟩ := ho
  exact ⟨PE.imp (pe_op hr ha.pe hb.pe) (bin_imp (f := binaryOp op) hg)⟩
theorem tpe_cmp {op : CmpOp} {g : G2} (ho : OpT X (compareOp op) g) (ha : TPE X B a ta) (hb : TPE X B b tb) (hm : behindInMarks op b = false) : TPE X B (.Compare a [op] [b] pos) (ttBin g ta tb) := by
  obtain ⟨r, hr, hg⟩ := ho
  exact ⟨PE.imp (pe_cmpR hr ha.pe hb.pe hm) (bin_imp (f := compareOp op) hg)⟩
/-- a bool's value as a test -/
def ttB (te : TTE) : TTT := fun τ P => te τ fun r τ1 => match r.t τ1 with
  | .bl b => P b τ1
  | _ => False
theorem test_imp {te : TTE} (σ : St) (H : Hp) (Q : Bool → Hp → Prop) (h : liftT X.K B (ttB te) σ H Q) : lift X.K B te σ H fun x H' => ∃ k, x = .bl k ∧ Q k H' := by
  obtain ⟨F, τ, P, I, ht, hq⟩ := h
  refine lift.go I ht fun r τ1 F1 H1 v h1 I1 s1 r1 f1 => ?_
  have rd := r1.rd I1.wf
  cases e : r.t τ1 with
  | bl b =>
    rw [e] at h1 rd
    exact ⟨b, rd.bl, hq _ _ _ _ h1 I1 s1⟩
  | _ => rw [e] at h1; exact h1.elim
theorem tpt_cmp {op : CmpOp} {g : G2} (ho : OpT X (compareOp op) g) (ha : TPE X B a ta) (hb : TPE X B b tb) (hm : behindInMarks op b = false) : TPT X B (.Compare a [op] [b] pos) (ttB (ttBin g ta tb)) := by
  obtain ⟨r, hr, hg⟩ := ho
  refine ⟨PT.imp (pt_cmpR hr ha.pe hb.pe hm) fun σ H Q h => ?_⟩
  exact bin_imp (f := compareOp op) hg σ H _ (test_imp σ H Q h)
theorem tpt_val {e : Expr} {te : TTE} (h : TPE X B e te) (he : ∀ whole, isTrue e X.env whole = (do let v ← whole; standAt e.pos; holding [v] (truthy v)) := by intro _; rfl) : TPT X B e (ttB te) :=
  ⟨PT.imp (pt_val h.pe he) fun σ H Q h => test_imp σ H Q h⟩
variable {tA tB' : TTT} {rest : List Expr}
def ttAnd (t u : TTT) : TTT := fun τ P => t τ fun c τ1 => if c = true then u τ1 P else P false τ1
def ttOr (t u : TTT) : TTT := fun τ P => t τ fun c τ1 => if c = true then P true τ1 else u τ1 P
def ttNot (t : TTT) : TTT := fun τ P => t τ fun c τ1 => P (!c) τ1
theorem TPW.pt {e : Expr} {t : TTT} (h : TPW X B e t) : TPT X B e t := ⟨h.pw.pt⟩
theorem tpw_and1 (ha : TPT X B a tA) : TPW X B (.BoolOp .And [a] pos) tA := ⟨pw_and1 ha.pt⟩
theorem tpw_or1 (ha : TPT X B a tA) : TPW X B (.BoolOp .Or [a] pos) tA := ⟨pw_or1 ha.pt⟩
theorem tpw_and (ha : TPT X B a tA) (hb : TPW X B (.BoolOp .And (b :: rest) pos) tB') : TPW X B (.BoolOp .And (a :: b :: rest) pos) (ttAnd tA tB') := by
  refine ⟨PW.imp (pw_and ha.pt hb.pw) fun σ H Q h => ?_⟩
  obtain ⟨F, τ, P, I, ht, hq⟩ := h
  refine ⟨F, τ, _, I, ht, fun c τ1 F1 H1 h1 I1 s1 => ?_⟩
  cases c with
  | true =>
    rw [if_pos rfl] at h1 ⊢
    exact ⟨F1, τ1, _, I1, h1, fun c τ2 F2 H2 h2 I2 s2 => hq _ _ _ _ h2 I2 (s1.trans s2)⟩
  | false =>
    rw [if_neg Bool.false_ne_true] at h1 ⊢
    exact hq _ _ _ _ h1 I1 s1
theorem tpw_or (ha : TPT X B a tA) (hb : TPW X B (.BoolOp .Or (b :: rest) pos) tB') : TPW X B (.BoolOp .Or (a :: b :: rest) pos) (ttOr tA tB') := by
  refine ⟨PW.imp (pw_or ha.pt hb.pw) fun σ H Q h => ?_⟩
  obtain ⟨F, τ, P, I, ht, hq⟩ := h
  refine ⟨F, τ, _, I, ht, fun c τ1 F1 H1 h1 I1 s1 => ?_⟩
  cases c with
  | false =>
    rw [if_neg Bool.false_ne_true] at h1 ⊢
    exact ⟨F1, τ1, _, I1, h1, fun c τ2 F2 H2 h2 I2 s2 => hq _ _ _ _ h2 I2 (s1.trans s2)⟩
  | true =>
    rw [if_pos rfl] at h1 ⊢
    exact hq _ _ _ _ h1 I1 s1
theorem tpt_not (ha : TPT X B a tA) : TPT X B (.UnaryOp .Not a pos) (ttNot tA) := by
  refine ⟨PT.imp (pt_not ha.pt) fun σ H Q h => ?_⟩
  obtain ⟨F, τ, P, I, ht, hq⟩ := h
  exact ⟨F, τ, _, I, ht, fun c τ1 F1 H1 h1 I1 s1 => hq _ _ _ _ h1 I1 s1⟩
def ttIf (t : TTT) (ta tb : TTE) : TTE := fun τ P => t τ fun c τ1 => if c = true then ta τ1 P else tb τ1 P
/-- as values -/
def ttAndV (ta tb : TTE) : TTE := fun τ P => ta τ fun r τ1 => match r.t τ1 with
  | .bl b => if b = true then tb τ1 P else P (.val false (.bl false)) τ1
  | _ => False
def ttOrV (ta tb : TTE) : TTE := fun τ P => ta τ fun r τ1 => match r.t τ1 with
  | .bl b => if b = true then P (.val false (.bl true)) τ1 else tb τ1 P
  | _ => False
def ttNotV (ta : TTE) : TTE := fun τ P => ta τ fun r τ1 => match r.t τ1 with
  | .bl b => P (.val false (.bl (!b))) τ1
  | _ => False
theorem tpe_one {op} {t : TTE} (h : TPE X B a t) : TPE X B (.BoolOp op [a] pos) t := ⟨pe_one h.pe⟩
theorem bl_cases {te : TTE} {σ : St} {H : Hp} {F : Hp} {τ : TSt} {Pb : Bool → TSt → Prop} {Q : VK} (I : Inn X.K B F H σ τ) (ht : te τ fun r τ1 => match r.t τ1 with | .bl b => Pb b τ1 | _ => False)
    (k : ∀ b τ1 F1 H1, Pb b τ1 → Inn X.K B F1 H1 σ τ1 → Stp F H σ τ F1 H1 τ1 → Q (.bl b) H1) : lift X.K B te σ H Q := by
  refine lift.go I ht fun r τ1 F1 H1 v h1 I1 s1 r1 f1 => ?_
  have rd := r1.rd I1.wf
  cases e : r.t τ1 with
  | bl b =>
    rw [e] at h1 rd
    rw [rd.bl]
    exact k _ _ _ _ h1 I1 s1
  | _ => rw [e] at h1; exact h1.elim
theorem tpe_and (ha : TPE X B a ta) (hb : TPE X B (.BoolOp .And (b :: rest) pos) tb) : TPE X B (.BoolOp .And (a :: b :: rest) pos) (ttAndV ta tb) := by
  refine ⟨PE.imp (pe_and ha.pe hb.pe) fun σ H Q h => ?_⟩
  obtain ⟨F, τ, P, I, ht, hq⟩ := h
  refine bl_cases (Pb := fun b τ1 => if b = true then tb τ1 P else P (.val false (.bl false)) τ1) I ht fun c τ1 F1 H1 h1 I1 s1 => ⟨c, rfl, ?_⟩
  cases c with
  | true =>
    rw [if_pos rfl] at h1 ⊢
    exact lift.go I1 h1 fun r τ2 F2 H2 v h2 I2 s2 r2 f2 => hq _ _ _ _ _ h2 I2 (s1.trans s2) r2 (Fresh.step s1 f2)
  | false =>
    rw [if_neg Bool.false_ne_true] at h1 ⊢
    exact hq _ _ _ _ _ h1 I1 s1 rfl trivial
theorem tpe_not (ha : TPE X B a ta) : TPE X B (.UnaryOp .Not a pos) (ttNotV ta) := by
  refine ⟨PE.imp (pe_not ha.pe) fun σ H Q h => ?_⟩
  obtain ⟨F, τ, P, I, ht, hq⟩ := h
  exact bl_cases (Pb := fun b τ1 => P (.val false (.bl (!b))) τ1) I ht fun c τ1 F1 H1 h1 I1 s1 => ⟨c, rfl, hq _ _ _ _ _ h1 I1 s1 rfl trivial⟩
/-- a < b < c -/
def ttChain (g g' : G2) (ta tb tc : TTE) : TTE := fun τ P => ta τ fun ra τ1 => tb τ1 fun rb τ2 => g (ra.t τ2) (rb.t τ2) fun _ t => match t with
  | .bl true => tc τ2 fun rc τ3 => rb.t τ3 = rb.t τ2 ∧ g' (rb.t τ3) (rc.t τ3) fun k t => P (.val k t) τ3
  | .bl false => P (.val false (.bl false)) τ2
  | _ => False
theorem tpe_chain {op op' : CmpOp} {g g' : G2} (ho : OpT X (compareOp op) g) (ho' : OpT X (compareOp op') g') (ha : TPE X B a ta) (hb : TPE X B b tb) (hc : TPE X B c tc) (hm : lastMarks [op, op'] [b, c] = false := by with_unfolding_all rfl) :
    TPE X B (.Compare a [op, op'] [b, c] pos) (ttChain g g' ta tb tc) := by
  obtain ⟨r, hr, hg⟩ := ho
  obtain ⟨r', hr', hg'⟩ := ho'
  refine ⟨PE.imp (pe_chain hr hr' ha.pe hb.pe hc.pe hm) fun σ H Q h => ?_⟩
  obtain ⟨F, τ, P, I, ht, hq⟩ := h
  refine lift.go I ht fun ra τ1 F1 H1 x h1 I1 s1 r1 f1 => ?_
  refine lift.go I1 h1 fun rb τ2 F2 H2 y h2 I2 s2 r2 f2 => ?_
  refine hg F2 H2 x y _ _ _ _ I2.wf.sub ((r1.step s2).rd I2.wf) (r2.rd I2.wf) h2 fun k t v F' H' gk gr rg => ?_
  have I3 := I2.step (gr.wf I2.wf) gr.step
  cases t with
  | bl b =>
    have ev : v = .bl b := by
      cases k with
      | false => exact rg
      | true =>
        obtain ⟨_, _, _, _, z⟩ := rg
        exact z.elim
    subst ev
    refine ⟨b, rfl, ?_⟩
    cases b with
    | true =>
      rw [if_pos rfl]
      refine lift.go I3 gk fun rc τ3 F3 H3 z h3 I4 s3 r3 f3 => ?_
      obtain ⟨_, h3⟩ := h3
      refine hg' F3 H3 y z _ _ _ Q I4.wf.sub ((r2.step (gr.step.trans s3)).rd I4.wf) (r3.rd I4.wf) h3 fun k t v F' H' gk gr' rg => ?_
      obtain ⟨rr, fr⟩ := RG.rr I4.wf gr' rg
      exact hq _ _ _ _ _ gk (I4.step (gr'.wf I4.wf) gr'.step) ((((s1.trans s2).trans gr.step).trans s3).trans gr'.step) rr (Fresh.step (((s1.trans s2).trans gr.step).trans s3) fr)
    | false =>
      rw [if_neg Bool.false_ne_true]
      exact hq _ _ _ _ _ gk I3 ((s1.trans s2).trans gr.step) rfl trivial
  | _ => exact gk.elim
end
end TL

namespace TL
open PySem L2

structure TEnds where
  nx : TSt → Prop
  rt : R → TSt → Prop
  bk : TSt → Prop := fun _ => False
  ct : TSt → Prop := fun _ => False
abbrev TTS := TEnds → TSt → Prop
/-- between two points of a body -/
structure SS (F : Hp) (σ : St) (τ : TSt) (F' : Hp) (σ' : St) (τ' : TSt) : Prop where
  sub : Same F F'
  lock : ∀ (i : Nat) (k : Kd) (t : T), τ[i]? = some (some ⟨k, true, t⟩) → τ'[i]? = some (some ⟨k, true, t⟩) ∧ σ'[i]? = σ[i]?
theorem SS.refl {F : Hp} {σ : St} {τ : TSt} : SS F σ τ F σ τ := ⟨fun _ _ h => h, fun _ _ _ h => ⟨h, rfl⟩⟩
theorem SS.trans {F F1 F2 : Hp} {σ σ1 σ2 : St} {τ τ1 τ2 : TSt} (a : SS F σ τ F1 σ1 τ1) (b : SS F1 σ1 τ1 F2 σ2 τ2) : SS F σ τ F2 σ2 τ2 := ⟨a.sub.trans b.sub, fun i k t h => by
  obtain ⟨h1, e1⟩ := a.lock i k t h
  obtain ⟨h2, e2⟩ := b.lock i k t h1
  exact ⟨h2, e2.trans e1⟩⟩
theorem Stp.ss {F H F1 H1 : Hp} {σ : St} {τ τ1 : TSt} (s : Stp F H σ τ F1 H1 τ1) : SS F σ τ F1 σ τ1 := ⟨s.sub, fun i k t h => ⟨s.lock i k t h, rfl⟩⟩
structure EndsOk (K : PySem.W.Frag) (B : Bs) (F0 : Hp) (σ0 : St) (τ0 : TSt) (TD : TEnds) (D : Ends) : Prop where
  nx : ∀ F H σ τ, Inn K B F H σ τ → SS F0 σ0 τ0 F σ τ → TD.nx τ → D.nx σ H
  bk : ∀ F H σ τ, Inn K B F H σ τ → SS F0 σ0 τ0 F σ τ → TD.bk τ → D.bk σ H
  ct : ∀ F H σ τ, Inn K B F H σ τ → SS F0 σ0 τ0 F σ τ → TD.ct τ → D.ct σ H
  rt : ∀ F H σ τ r v, Inn K B F H σ τ → RR K F H σ τ v r → Fresh B.H v r → TD.rt r τ → D.rt v H
theorem EndsOk.step {K : PySem.W.Frag} {B : Bs} {F0 F1 : Hp} {σ0 σ1 : St} {τ0 τ1 : TSt} {TD : TEnds} {D : Ends} (e : EndsOk K B F0 σ0 τ0 TD D) (s : SS F0 σ0 τ0 F1 σ1 τ1) : EndsOk K B F1 σ1 τ1 TD D :=
  ⟨fun F H σ τ I q => e.nx F H σ τ I (s.trans q), fun F H σ τ I q => e.bk F H σ τ I (s.trans q), fun F H σ τ I q => e.ct F H σ τ I (s.trans q), e.rt⟩
def liftS (K : PySem.W.Frag) (B : Bs) (t : TTS) : TS := fun D σ H => ∃ F τ TD, Inn K B F H σ τ ∧ t TD τ ∧ EndsOk K B F σ τ TD D
structure TPS (X : Cx) (B : Bs) (st : Stmt) (t : TTS) : Prop where
  ps : PS X st (liftS X.K B t)
structure TPSs (X : Cx) (B : Bs) (st : List Stmt) (t : TTS) : Prop where
  pss : PSs X st (liftS X.K B t)

theorem Inn.freshB {K : PySem.W.Frag} {B : Bs} {F H : Hp} {σ : St} {τ : TSt} {v : V} (I : Inn K B F H σ τ) : ∀ {r : R}, Fresh H v r → Fresh B.H v r
  | .val false _, _ => trivial
  | .var _, _ => trivial
  | .val true _, ⟨p, e, n⟩ => ⟨p, e, by
    cases q : B.H p with
    | none => rfl
    | some o => exact absurd n (I.dom p (by rw [q]; simp))⟩

def canS : Option (Option Sl) → Bool
  | some none => true
  | some (some ⟨_, false, _⟩) => true
  | _ => false
def setS (τ : TSt) (i : Nat) (s : Sl) (P : TSt → Prop) : Prop := canS τ[i]? = true ∧ P (τ.set i (some s))
def stR (r : R) (τ : TSt) (i : Nat) (P : TSt → Prop) : Prop := match r with
  | .val true t => setS τ i ⟨.own, false, t⟩ P
  | r => frzR r τ fun t τ1 => setS τ1 i ⟨.frz, false, t⟩ P
theorem setS.inv {τ : TSt} {i : Nat} {s : Sl} {P : TSt → Prop} (h : setS τ i s P) : P (τ.set i (some s)) ∧ i < τ.length ∧ ∀ k t, τ[i]? ≠ some (some ⟨k, true, t⟩) := by
  obtain ⟨c, h⟩ := h
  refine ⟨h, ?_, fun k t z => by rw [z] at c; cases c⟩
  cases e : τ[i]? with
  | none => rw [e] at c; cases c
  | some x => exact (List.getElem?_eq_some_iff.mp e).1
section
variable {K : PySem.W.Frag} {B : Bs} {F H : Hp} {σ : St} {τ : TSt} {v : V}
theorem store_ss {i : Nat} {s : Sl} {x : Option V} (nl : ∀ k t, τ[i]? ≠ some (some ⟨k, true, t⟩)) : SS F σ τ F (σ.set i x) (τ.set i (some s)) := ⟨fun _ _ h => h, fun j k t h => by
  have hj : j ≠ i := fun z => by subst z; exact nl k t h
  rw [List.getElem?_set_ne (Ne.symm hj), List.getElem?_set_ne (Ne.symm hj)]
  exact ⟨h, rfl⟩⟩
theorem set_get {α : Type} {l : List α} {i j : Nat} {x y : α} (h : (l.set i x)[j]? = some y) : (j = i ∧ y = x ∧ i < l.length) ∨ (j ≠ i ∧ l[j]? = some y) := by
  by_cases hj : j = i
  · subst hj
    by_cases hl : j < l.length
    · rw [List.getElem?_set_self hl] at h
      exact .inl ⟨rfl, (Option.some.inj h).symm, hl⟩
    · rw [List.getElem?_eq_none (by simpa using hl)] at h
      cases h
  · rw [List.getElem?_set_ne (Ne.symm hj)] at h
    exact .inr ⟨hj, h⟩
theorem store_frz (I : Inn K B F H σ τ) {i : Nat} {t : T} (hi : i < τ.length) (r : Rep K F t v) : Inn K B F H (σ.set i (some v)) (τ.set i (some ⟨.frz, false, t⟩)) := by
  have own' : ∀ (j : Nat) (k : Kd) (a : Addr), Owns (σ.set i (some v)) (τ.set i (some ⟨.frz, false, t⟩)) j k a → j ≠ i ∧ Owns σ τ j k a := fun j k a ⟨l, u, h1, h2, h3⟩ => by
    rcases set_get h1 with ⟨_, z, _⟩ | ⟨hj, z⟩
    · cases z; exact absurd rfl h2
    · rw [List.getElem?_set_ne (Ne.symm hj)] at h3
      exact ⟨hj, l, u, z, h2, h3⟩
  have hiσ : i < σ.length := by rw [← I.wf.len]; exact hi
  refine ⟨⟨I.wf.sub, by rw [List.length_set, List.length_set]; exact I.wf.len, fun j l u h => ?_, fun j k l u h hk => ?_, fun a b k l x h1 h2 => I.wf.sep a b k l x (own' _ _ _ h1).2 (own' _ _ _ h2).2⟩, I.sub, I.new, I.fr, I.dom, fun j a h => I.ow j a (own' _ _ _ h).2, fun j m a h => I.ar j m a (own' _ _ _ h).2⟩
  · rcases set_get h with ⟨hj, z, _⟩ | ⟨hj, z⟩
    · cases z; subst hj
      exact ⟨v, List.getElem?_set_self hiσ, r⟩
    · rw [List.getElem?_set_ne (Ne.symm hj)]
      exact I.wf.frz j l u z
  · rcases set_get h with ⟨hj, z, _⟩ | ⟨hj, z⟩
    · cases z; exact absurd rfl hk
    · rw [List.getElem?_set_ne (Ne.symm hj)]
      exact I.wf.own j k l u z hk
theorem store_own (I : Inn K B F H σ τ) {i : Nat} {t : T} (hi : i < τ.length) (r : RR K F H σ τ v (.val true t)) (f : Fresh B.H v (.val true t)) : Inn K B F H (σ.set i (some v)) (τ.set i (some ⟨.own, false, t⟩)) := by
  obtain ⟨p, rfl, n, o, no⟩ := r
  obtain ⟨p', e, nb⟩ := f
  cases e
  have hiσ : i < σ.length := by rw [← I.wf.len]; exact hi
  have own' : ∀ (j : Nat) (k : Kd) (a : Addr), Owns (σ.set i (some (.ref p))) (τ.set i (some ⟨.own, false, t⟩)) j k a → (j = i ∧ k = .own ∧ a = p) ∨ (j ≠ i ∧ Owns σ τ j k a) := fun j k a ⟨l, u, h1, h2, h3⟩ => by
    rcases set_get h1 with ⟨hj, z, _⟩ | ⟨hj, z⟩
    · cases z; subst hj
      rw [List.getElem?_set_self hiσ] at h3
      cases h3
      exact .inl ⟨rfl, rfl, rfl⟩
    · rw [List.getElem?_set_ne (Ne.symm hj)] at h3
      exact .inr ⟨hj, l, u, z, h2, h3⟩
  refine ⟨⟨I.wf.sub, by rw [List.length_set, List.length_set]; exact I.wf.len, fun j l u h => ?_, fun j k l u h hk => ?_, fun a b k l x h1 h2 => ?_⟩, I.sub, I.new, I.fr, I.dom, fun j a h => ?_, fun j m a h => ?_⟩
  · rcases set_get h with ⟨hj, z, _⟩ | ⟨hj, z⟩
    · cases z
    · rw [List.getElem?_set_ne (Ne.symm hj)]
      exact I.wf.frz j l u z
  · rcases set_get h with ⟨hj, z, _⟩ | ⟨hj, z⟩
    · cases z; subst hj
      exact ⟨p, List.getElem?_set_self hiσ, n, o⟩
    · rw [List.getElem?_set_ne (Ne.symm hj)]
      exact I.wf.own j k l u z hk
  · rcases own' _ _ _ h1 with ⟨ha, _, e⟩ | ⟨_, q1⟩
    · rcases own' _ _ _ h2 with ⟨hb, _, _⟩ | ⟨_, q2⟩
      · rw [ha, hb]
      · rw [e] at q2; exact absurd q2 (no _ _)
    · rcases own' _ _ _ h2 with ⟨hb, _, e⟩ | ⟨_, q2⟩
      · rw [e] at q1; exact absurd q1 (no _ _)
      · exact I.wf.sep a b k l x q1 q2
  · rcases own' _ _ _ h with ⟨_, _, e⟩ | ⟨_, q⟩
    · rw [e]; exact nb
    · exact I.ow j a q
  · rcases own' _ _ _ h with ⟨_, e, _⟩ | ⟨_, q⟩
    · cases e
    · exact I.ar j m a q
/-- a result goes to slot i -/
theorem stR.ok {F0 H0 : Hp} {τ0 : TSt} {r : R} {i : Nat} {P : TSt → Prop} (I0 : Inn K B F0 H0 σ τ0) (I : Inn K B F H σ τ) (s : Stp F0 H0 σ τ0 F H τ) (rr : RR K F H σ τ v r) (f : Fresh H0 v r) (h : stR r τ i P) :
    ∃ F' τ', P τ' ∧ Inn K B F' H (σ.set i (some v)) τ' ∧ SS F0 σ τ0 F' (σ.set i (some v)) τ' := by
  have frz : ∀ h : frzR r τ fun t τ1 => setS τ1 i ⟨.frz, false, t⟩ P, ∃ F' τ', P τ' ∧ Inn K B F' H (σ.set i (some v)) τ' ∧ SS F0 σ τ0 F' (σ.set i (some v)) τ' := fun h => by
    obtain ⟨t, τ1, F1, h1, I1, s1, rep, _⟩ := freeze I0 I s rr f h
    obtain ⟨hp, hi, nl⟩ := h1.inv
    exact ⟨F1, _, hp, store_frz I1 hi rep, s1.ss.trans (store_ss nl)⟩
  cases r with
  | var j => exact frz h
  | val k t =>
    cases k with
    | false => exact frz h
    | true =>
      obtain ⟨hp, hi, nl⟩ := setS.inv h
      exact ⟨F, _, hp, store_own I hi rr (I0.freshB f), s.ss.trans (store_ss nl)⟩
end

section
variable {X : Cx} {B : Bs} {st : Stmt} {rest : List Stmt} {t u : TTS} {e : Expr} {te : TTE} {pos : Pos}
def ttNext : TTS := fun D τ => D.nx τ
def ttSeq (t u : TTS) : TTS := fun D τ => t { D with nx := u D } τ
theorem tpss_nil : TPSs X B [] ttNext := ⟨PSs.imp pss_nil fun D σ H h => by
  obtain ⟨F, τ, TD, I, h, ok⟩ := h
  exact ok.nx F H σ τ I SS.refl h⟩
theorem tpss_cons (h1 : TPS X B st t) (h2 : TPSs X B rest u) : TPSs X B (st :: rest) (ttSeq t u) := ⟨PSs.imp (pss_cons h1.ps h2.pss) fun D σ H h => by
  obtain ⟨F, τ, TD, I, h, ok⟩ := h
  exact ⟨F, τ, _, I, h, fun F1 H1 σ1 τ1 I1 s1 q => ⟨F1, τ1, TD, I1, q, ok.step s1⟩, ok.bk, ok.ct, ok.rt⟩⟩
theorem tpss_one (h1 : TPS X B st t) : TPSs X B [st] t := ⟨pss_one h1.ps⟩
def ttBreak : TTS := fun D τ => D.bk τ
def ttCont : TTS := fun D τ => D.ct τ
def ttDrop (te : TTE) : TTS := fun D τ => te τ fun _ τ1 => D.nx τ1
theorem tps_expr (he : TPE X B e te) (hs : swapsWith e none pos.line X.env = pure false := by rfl) : TPS X B (.Expr e pos) (ttDrop te) := ⟨PS.imp (ps_expr he.pe hs) fun D σ H h => by
  obtain ⟨F, τ, TD, I, h, ok⟩ := h
  exact lift.go I h fun r τ1 F1 H1 v h1 I1 s1 r1 f1 => ok.nx F1 H1 σ τ1 I1 s1.ss h1⟩
def ttRet (te : TTE) : TTS := fun D τ => te τ fun r τ1 => D.rt r τ1
theorem tps_ret (he : TPE X B e te) : TPS X B (.Return (some e) pos) (ttRet te) := ⟨PS.imp (ps_ret he.pe) fun D σ H h => by
  obtain ⟨F, τ, TD, I, h, ok⟩ := h
  exact lift.go I h fun r τ1 F1 H1 v h1 I1 s1 r1 f1 => ok.rt F1 H1 σ τ1 r v I1 r1 (I.freshB f1) h1⟩
def ttRetN : TTS := fun D τ => D.rt (.val false .non) τ
def ttIfS (c : TTT) (t u : TTS) : TTS := fun D τ => c τ fun b τ1 => if b = true then t D τ1 else u D τ1
theorem tps_if {c : Expr} {a b : List Stmt} {tc : TTT} (hc : TPT X B c tc) (ha : TPSs X B a t) (hb : TPSs X B b u) : TPS X B (.If c a b pos) (ttIfS tc t u) := ⟨PS.imp (ps_if hc.pt ha.pss hb.pss) fun D σ H h => by
  obtain ⟨F, τ, TD, I, h, ok⟩ := h
  refine ⟨F, τ, _, I, h, fun d τ1 F1 H1 h1 I1 s1 => ?_⟩
  cases d with
  | true => rw [if_pos rfl] at h1 ⊢; exact ⟨F1, τ1, TD, I1, h1, ok.step s1.ss⟩
  | false => rw [if_neg Bool.false_ne_true] at h1 ⊢; exact ⟨F1, τ1, TD, I1, h1, ok.step s1.ss⟩⟩
def ttSet (i : Nat) (te : TTE) : TTS := fun D τ => te τ fun r τ1 => stR r τ1 i D.nx
theorem tps_set {i : Nat} {x : Str} {pos' : Pos} (hN : X.N.Nodup) (hi : X.N[i]? = some x) (hx : Loc X.env.scope x) (he : TPE X B e te) (hs : swapsWith e (some (.Name x pos')) pos.line X.env = pure false := by rfl) (hf : X.fn x = true ∨ X.env.scope.names.lookup x = some .local := by first | exact .inl rfl | exact .inr rfl | assumption) :
    TPS X B (.Assign [.Name x pos'] e pos) (ttSet i te) := ⟨PS.imp (ps_set hN hi hx he.pe hs hf) fun D σ H h => by
  obtain ⟨F, τ, TD, I, h, ok⟩ := h
  refine lift.go I h fun r τ1 F1 H1 v h1 I1 s1 r1 f1 => ?_
  obtain ⟨F2, τ2, h2, I2, s2⟩ := stR.ok I I1 s1 r1 f1 h1
  exact ok.nx F2 H1 _ τ2 I2 s2 h2⟩

abbrev TTG := T → TSt → (TSt → Prop) → Prop
abbrev TTGs := List T → TSt → (TSt → Prop) → Prop
def liftG (K : PySem.W.Frag) (B : Bs) (is : List Nat) (g : TTG) : TG := fun v σ H Q => ∃ F τ t P, Inn K B F H σ τ ∧ Rep K F t v ∧ g t τ P ∧
  ∀ σ' τ', Inn K B F H σ' τ' → SS F σ τ F σ' τ' → (σ'.length = σ.length ∧ ∀ (j : Nat), j ∉ is → σ'[j]? = σ[j]? ∧ τ'[j]? = τ[j]?) → (∀ (j : Nat), j ∈ is → ∀ s : Sl, τ'[j]? = some (some s) → s.k = .frz) → P τ' → Q σ' H
def liftGs (K : PySem.W.Frag) (B : Bs) (is : List Nat) (g : TTGs) : TGs := fun vs σ H Q => ∃ F τ ts P, Inn K B F H σ τ ∧ Reps K F ts vs ∧ g ts τ P ∧
  ∀ σ' τ', Inn K B F H σ' τ' → SS F σ τ F σ' τ' → (σ'.length = σ.length ∧ ∀ (j : Nat), j ∉ is → σ'[j]? = σ[j]? ∧ τ'[j]? = τ[j]?) → (∀ (j : Nat), j ∈ is → ∀ s : Sl, τ'[j]? = some (some s) → s.k = .frz) → P τ' → Q σ' H
structure TPG (X : Cx) (B : Bs) (is : List Nat) (e : Expr) (g : TTG) : Prop where
  pg : PG X e (liftG X.K B is g)
structure TPGs (X : Cx) (B : Bs) (is : List Nat) (e : List Expr) (g : TTGs) : Prop where
  pgs : PGs X e (liftGs X.K B is g)
theorem PG.imp {e : Expr} {t u : TG} (h : PG X e t) (i : ∀ v σ H Q, u v σ H Q → t v σ H Q) : PG X e u := ⟨fun pins s σ H v w Q I r q => h.run pins s σ H v w Q I r (i v σ H Q q)⟩
theorem PGs.imp {e : List Expr} {t u : TGs} (h : PGs X e t) (i : ∀ v σ H Q, u v σ H Q → t v σ H Q) : PGs X e u := ⟨fun pins s σ H v w Q I r q => h.run pins s σ H v w Q I r (i v σ H Q q)⟩
def tgN (i : Nat) : TTG := fun t τ P => setS τ i ⟨.frz, false, t⟩ P
theorem tpg_n {i : Nat} {x : Str} (hN : X.N.Nodup) (hi : X.N[i]? = some x) (hx : Loc X.env.scope x) (hf : X.fn x = true ∨ X.env.scope.names.lookup x = some .local := by first | exact .inl rfl | exact .inr rfl | assumption) : TPG X B [i] (.Name x pos) (tgN i) :=
  ⟨PG.imp (pg_name hN hi hx hf) fun v σ H Q h => by
  obtain ⟨F, τ, t, P, I, r, h, q⟩ := h
  obtain ⟨hp, hi', nl⟩ := setS.inv h
  refine q _ _ (store_frz I hi' r) (store_ss nl) ⟨List.length_set .., fun j hj => ?_⟩ (fun j hj s e => ?_) hp
  · have hj : i ≠ j := fun z => hj (by simp [z])
    exact ⟨List.getElem?_set_ne hj, List.getElem?_set_ne hj⟩
  · rcases set_get e with ⟨_, z, _⟩ | ⟨z, _⟩
    · cases z; rfl
    · exact absurd (by simpa using hj) z⟩
def tgsNil : TTGs := fun ts τ P => match ts with
  | [] => P τ
  | _ => False
def tgsCons (g : TTG) (gs : TTGs) : TTGs := fun ts τ P => match ts with
  | t :: r => g t τ fun τ1 => gs r τ1 P
  | _ => False
theorem tpgs_nil : TPGs X B [] [] tgsNil := ⟨PGs.imp pgs_nil fun vs σ H Q h => by
  obtain ⟨F, τ, ts, P, I, r, h, q⟩ := h
  cases ts with
  | nil => exact ⟨r, q σ τ I SS.refl ⟨rfl, fun _ _ => ⟨rfl, rfl⟩⟩ (fun _ z => nomatch z) h⟩
  | cons _ _ => exact h.elim⟩
theorem tpgs_cons {e : Expr} {es : List Expr} {g : TTG} {gs : TTGs} {is js : List Nat} (h1 : TPG X B is e g) (h2 : TPGs X B js es gs) (hs : (assignEach (e :: es) X.env).map (·.2) = assign e X.env :: (assignEach es X.env).map (·.2) := by rfl) : TPGs X B (is ++ js) (e :: es) (tgsCons g gs) :=
  ⟨PGs.imp (pgs_cons h1.pg h2.pgs hs) fun vs σ H Q h => by
  obtain ⟨F, τ, ts, P, I, r, h, q⟩ := h
  cases ts with
  | nil => exact h.elim
  | cons t ts =>
    obtain ⟨v, vr, rfl, r1, r2⟩ := r
    refine ⟨v, vr, rfl, F, τ, t, _, I, r1, h, fun σ1 τ1 I1 s1 n1 f1 h1 => ?_⟩
    refine ⟨F, τ1, ts, _, I1, r2, h1, fun σ2 τ2 I2 s2 n2 f2 h2 => q σ2 τ2 I2 (s1.trans s2) ⟨n2.1.trans n1.1, fun j hj => ?_⟩ (fun j hj s e => ?_) h2⟩
    · rw [List.mem_append, not_or] at hj
      exact ⟨(n2.2 j hj.2).1.trans (n1.2 j hj.1).1, (n2.2 j hj.2).2.trans (n1.2 j hj.1).2⟩
    · by_cases hj2 : j ∈ js
      · exact f2 j hj2 s e
      · rw [(n2.2 j hj2).2] at e
        exact f1 j ((List.mem_append.mp hj).resolve_right hj2) s e⟩
def tgTup (n : Nat) (gs : TTGs) : TTG := fun t τ P => match t with
  | .tup ts => ts.length = n ∧ gs ts τ P
  | _ => False
theorem tpg_tup {es : List Expr} {k : Nat} {gs : TTGs} {n : Nat} {is : List Nat} (hc : X.calm = true) (h : TPGs X B is es gs) (hn : (assignEach es X.env).length = n := by rfl) (hst : (assignEach es X.env).findIdx? (·.1) = none := by rfl) :
    TPG X B is (.Tuple es k pos) (tgTup n gs) := ⟨PG.imp (pg_tup hc h.pgs hn hst) fun v σ H Q h => by
  obtain ⟨F, τ, t, P, I, r, h, q⟩ := h
  cases t with
  | tup ts =>
    obtain ⟨a, vs, rfl, sq, z, rs⟩ := r
    exact ⟨a, vs, rfl, SqT.mono I.wf.sub sq, by rw [← rs.len]; exact h.1, F, τ, ts, P, I, rs, h.2, q⟩
  | _ => exact h.elim⟩
def ttAsg (te : TTE) (g : TTG) : TTS := fun D τ => te τ fun r τ1 => frzR r τ1 fun t τ2 => g t τ2 D.nx
def ttWhile (c : TTT) (tb : TTS) : TTS := fun D τ => ∃ W : Nat → TSt → Prop, (∃ m, W m τ) ∧ ∀ m τ, W m τ → c τ fun b τ1 =>
  if b = true then tb { D with nx := fun τ' => ∃ m', m' < m ∧ W m' τ', ct := fun τ' => ∃ m', m' < m ∧ W m' τ', bk := D.nx } τ1 else D.nx τ1
theorem tps_while {c : Expr} {body : List Stmt} {tc : TTT} {tb : TTS} (hp : PassesOwn (model X.prog X.w) X.A X.env X.xe) (hc : TPT X B c tc) (hb : TPSs X B body tb) : TPS X B (.While c body [] pos) (ttWhile tc tb) :=
  ⟨PS.imp (ps_while hp hc.pt hb.pss) fun D σ H h => by
  obtain ⟨F, τ, TD, I, ⟨W, ⟨m0, w0⟩, turn⟩, ok⟩ := h
  refine ⟨fun m σ1 H1 => ∃ F1 τ1, Inn X.K B F1 H1 σ1 τ1 ∧ SS F σ τ F1 σ1 τ1 ∧ W m τ1, ⟨m0, F, τ, I, SS.refl, w0⟩, ?_⟩
  rintro m σ1 H1 ⟨F1, τ1, I1, s1, w1⟩
  refine ⟨F1, τ1, _, I1, turn m τ1 w1, fun b τ2 F2 H2 h2 I2 s2 => ?_⟩
  cases b with
  | false =>
    rw [if_neg Bool.false_ne_true] at h2 ⊢
    exact ok.nx F2 H2 σ1 τ2 I2 (s1.trans s2.ss) h2
  | true =>
    rw [if_pos rfl] at h2 ⊢
    refine ⟨fun σ' H' => ∃ m', m' < m ∧ ∃ F1 τ1, Inn X.K B F1 H' σ' τ1 ∧ SS F σ τ F1 σ' τ1 ∧ W m' τ1, fun σ' H' ⟨m', hm, F3, τ3, I3, s3, w3⟩ => ⟨m', hm, F3, τ3, I3, s3, w3⟩, F2, τ2, _, I2, h2, ?_⟩
    have s12 := s1.trans s2.ss
    exact ⟨fun F3 H3 σ3 τ3 I3 s3 ⟨m', hm, w3⟩ => ⟨m', hm, F3, τ3, I3, s12.trans s3, w3⟩, fun F3 H3 σ3 τ3 I3 s3 h3 => ok.nx F3 H3 σ3 τ3 I3 (s12.trans s3) h3, fun F3 H3 σ3 τ3 I3 s3 ⟨m', hm, w3⟩ => ⟨m', hm, F3, τ3, I3, s12.trans s3, w3⟩, ok.rt⟩⟩

/-- the slot that is locked through a loop -/
abbrev Lk := Option Nat
def lckT (l : Bool) (i : Nat) (τ : TSt) : TSt := match τ[i]? with
  | some (some s) => τ.set i (some ⟨s.k, l, s.t⟩)
  | _ => τ
def lck (u : Lk) (τ : TSt) : TSt := match u with
  | none => τ
  | some i => lckT true i τ
/-- the flag as it was in τ1 -/
def unl (u : Lk) (τ1 τ2 : TSt) : TSt := match u with
  | none => τ2
  | some i => match τ1[i]? with
    | some (some s) => lckT s.l i τ2
    | _ => τ2
theorem lckT_get {l : Bool} {i j : Nat} {τ : TSt} {k : Kd} {b : Bool} {t : T} (h : (lckT l i τ)[j]? = some (some ⟨k, b, t⟩)) : ∃ b', τ[j]? = some (some ⟨k, b', t⟩) ∧ (j = i → b = l) ∧ (j ≠ i → b = b') := by
  unfold lckT at h
  split at h
  · rename_i s e
    rcases set_get h with ⟨hj, z, _⟩ | ⟨hj, z⟩
    · cases z; subst hj
      exact ⟨s.l, e, fun _ => rfl, fun n => absurd rfl n⟩
    · exact ⟨b, z, fun n => absurd n hj, fun _ => rfl⟩
  · rename_i ne
    refine ⟨b, h, fun e => ?_, fun _ => rfl⟩
    subst e
    exact absurd h (ne _)
theorem lckT_of {l : Bool} {i j : Nat} {τ : TSt} {k : Kd} {b : Bool} {t : T} (h : τ[j]? = some (some ⟨k, b, t⟩)) : (lckT l i τ)[j]? = some (some ⟨k, if j = i then l else b, t⟩) := by
  unfold lckT
  by_cases hj : j = i
  · subst hj
    rw [h, if_pos rfl]
    exact List.getElem?_set_self (List.getElem?_eq_some_iff.mp h).1
  · rw [if_neg hj]
    split
    · rw [List.getElem?_set_ne (Ne.symm hj)]; exact h
    · exact h
theorem lckT_len {l : Bool} {i : Nat} {τ : TSt} : (lckT l i τ).length = τ.length := by
  unfold lckT
  split
  · rw [List.length_set]
  · rfl
theorem lckT_owns {l : Bool} {i j : Nat} {σ : St} {τ : TSt} {k : Kd} {a : Addr} : Owns σ (lckT l i τ) j k a ↔ Owns σ τ j k a := by
  constructor
  · rintro ⟨b, t, h1, h2, h3⟩
    obtain ⟨b', h, _⟩ := lckT_get h1
    exact ⟨b', t, h, h2, h3⟩
  · rintro ⟨b, t, h1, h2, h3⟩
    exact ⟨_, t, lckT_of h1, h2, h3⟩
theorem lckT_wf {K : PySem.W.Frag} {F H : Hp} {σ : St} {τ : TSt} {l : Bool} {i : Nat} (w : WF K F H σ τ) : WF K F H σ (lckT l i τ) :=
  ⟨w.sub, lckT_len.trans w.len, fun j b t h => let ⟨b', h', _⟩ := lckT_get h; w.frz j b' t h', fun j k b t h hk => let ⟨b', h', _⟩ := lckT_get h; w.own j k b' t h' hk, fun i j k m a h1 h2 => w.sep i j k m a (lckT_owns.mp h1) (lckT_owns.mp h2)⟩
theorem lckT_inn {K : PySem.W.Frag} {B : Bs} {F H : Hp} {σ : St} {τ : TSt} {l : Bool} {i : Nat} (I : Inn K B F H σ τ) : Inn K B F H σ (lckT l i τ) :=
  ⟨lckT_wf I.wf, I.sub, I.new, I.fr, I.dom, fun i a h => I.ow i a (lckT_owns.mp h), fun i j a h => I.ar i j a (lckT_owns.mp h)⟩
theorem lck_inn {K : PySem.W.Frag} {B : Bs} {F H : Hp} {σ : St} {τ : TSt} {u : Lk} (I : Inn K B F H σ τ) : Inn K B F H σ (lck u τ) := by
  cases u with
  | none => exact I
  | some i => exact lckT_inn I
theorem unl_inn {K : PySem.W.Frag} {B : Bs} {F H : Hp} {σ : St} {τ1 τ : TSt} {u : Lk} (I : Inn K B F H σ τ) : Inn K B F H σ (unl u τ1 τ) := by
  cases u with
  | none => exact I
  | some i =>
    unfold unl
    simp only
    split
    · exact lckT_inn I
    · exact I
theorem lck_owns {j : Nat} {σ : St} {τ : TSt} {k : Kd} {a : Addr} {u : Lk} : Owns σ (lck u τ) j k a ↔ Owns σ τ j k a := by
  cases u with
  | none => exact Iff.rfl
  | some i => exact lckT_owns
theorem unl_owns {j : Nat} {σ : St} {τ1 τ : TSt} {k : Kd} {a : Addr} {u : Lk} : Owns σ (unl u τ1 τ) j k a ↔ Owns σ τ j k a := by
  cases u with
  | none => exact Iff.rfl
  | some i =>
    unfold unl
    simp only
    split
    · exact lckT_owns
    · exact Iff.rfl
theorem unl_ss {F F2 : Hp} {σ σ2 : St} {τ1 τ2 : TSt} {u : Lk} (s : SS F σ (lck u τ1) F2 σ2 τ2) : SS F σ τ1 F2 σ2 (unl u τ1 τ2) := by
  cases u with
  | none => exact s
  | some i =>
    refine ⟨s.sub, fun j k t h => ?_⟩
    have h' : (lck (some i) τ1)[j]? = some (some ⟨k, true, t⟩) := by
      have q := lckT_of (l := true) (i := i) h
      rw [ite_self] at q
      exact q
    obtain ⟨h2, e2⟩ := s.lock j k t h'
    refine ⟨?_, e2⟩
    unfold unl
    simp only
    split
    · rename_i s' es
      have q := lckT_of (l := s'.l) (i := i) h2
      rw [q]
      by_cases hj : j = i
      · subst hj
        rw [h] at es
        cases es
        simp
      · rw [if_neg hj]
    · exact h2
theorem unl_stp {F H F2 H2 : Hp} {σ : St} {τ1 τ2 : TSt} {u : Lk} (s : Stp F H σ (lck u τ1) F2 H2 τ2) : Stp F H σ τ1 F2 H2 (unl u τ1 τ2) where
  sub := s.sub
  new := fun a h => by
    rcases s.new a h with z | z | ⟨i, z⟩
    · exact .inl z
    · exact .inr (.inl z)
    · exact .inr (.inr ⟨i, lck_owns.mp z⟩)
  fr := fun a o h n => s.fr a o h fun i k q => n i k (lck_owns.mp q)
  dom := s.dom
  own := fun i k a h => lck_owns.mp (s.own i k a (unl_owns.mp h))
  slot := fun i x h => by
    have l1 : ∃ s', (lck u τ1)[i]? = some (some s') := by
      cases u with
      | none => exact ⟨x, h⟩
      | some j => exact ⟨_, lckT_of (k := x.k) (b := x.l) (t := x.t) h⟩
    obtain ⟨s', h'⟩ := l1
    obtain ⟨s2, h2⟩ := s.slot i s' h'
    cases u with
    | none => exact ⟨s2, h2⟩
    | some j =>
      unfold unl
      simp only
      split
      · exact ⟨_, lckT_of (k := s2.k) (b := s2.l) (t := s2.t) h2⟩
      · exact ⟨s2, h2⟩
  lock := fun i k t h => ((unl_ss s.ss).lock i k t h).1
abbrev TTI := TSt → (List T → Lk → TSt → Prop) → Prop
/-- the source stands through the loop, and yields these -/
structure SrcOk (K : PySem.W.Frag) (J : It) (ts : List T) (S : Hp → St → TSt → Prop) : Prop where
  keep : ∀ F σ τ F' σ' τ', S F σ τ → SS F σ τ F' σ' τ' → S F' σ' τ'
  go : ∀ i F H σ τ, S F σ τ → WF K F H σ τ → i < ts.length → J.go i H
  stop : ∀ F H σ τ, S F σ τ → WF K F H σ τ → J.stop ts.length H
  yld : ∀ i t F H σ τ x H', S F σ τ → WF K F H σ τ → ts[i]? = some t → J.yld i H x H' → ∃ F', Grow F H F' H' ∧ Rep K F' t x
def liftI (K : PySem.W.Frag) (B : Bs) (ti : TTI) : TI := fun σ H R => ∃ F τ P, Inn K B F H σ τ ∧ ti τ P ∧
  ∀ ts u τ1 F1 H1 J S, P ts u τ1 → Inn K B F1 H1 σ τ1 → Stp F H σ τ F1 H1 τ1 → SrcOk K J ts S → S F1 σ (lck u τ1) → R J H1
structure TPI (X : Cx) (B : Bs) (tg e : Expr) (ti : TTI) : Prop where
  pi : PI X tg e (liftI X.K B ti)
theorem PI.imp {tg e : Expr} {t u : TI} (h : PI X tg e t) (i : ∀ σ H R, u σ H R → t σ H R) : PI X tg e u := ⟨fun pins s σ H R I q => h.run pins s σ H R I (i σ H R q)⟩

def ttFor (ti : TTI) (g : TTG) (tb : TTS) : TTS := fun D τ => ti τ fun ts u τ1 => ∃ Pv : Nat → TSt → Prop, Pv 0 (lck u τ1) ∧
  (∀ i t τ2, ts[i]? = some t → Pv i τ2 → g t τ2 fun τ3 => tb { D with nx := Pv (i + 1), ct := Pv (i + 1), bk := fun τ4 => D.nx (unl u τ1 τ4) } τ3) ∧ ∀ τ2, Pv ts.length τ2 → D.nx (unl u τ1 τ2)
theorem tps_for {tg iter : Expr} {body : List Stmt} {ti : TTI} {g : TTG} {tb : TTS} {is : List Nat} (hp : PassesOwn (model X.prog X.w) X.A X.env X.xe) (hc : X.calm = true) (hi : TPI X B tg iter ti) (hg : TPG X B is tg g) (hb : TPSs X B body tb)
    (hs : ∀ x, foldedSetIterable iter X.env x = pure x := by intro _; rfl) : TPS X B (.For tg iter body [] pos) (ttFor ti g tb) := ⟨PS.imp (ps_for hp hc hi.pi hg.pg hb.pss hs) fun D σ H h => by
  obtain ⟨F, τ, TD, I, h, ok⟩ := h
  refine ⟨F, τ, _, I, h, fun ts u τ1 F1 H1 J S ⟨Pv, p0, turn, fin⟩ I1 s01 so s0 => ?_⟩
  refine ⟨fun i m σ2 H2 => m = ts.length - i ∧ i ≤ ts.length ∧ ∃ F2 τ2, Inn X.K B F2 H2 σ2 τ2 ∧ SS F1 σ (lck u τ1) F2 σ2 τ2 ∧ Pv i τ2, ⟨ts.length, by simp, Nat.zero_le _, F1, _, lck_inn I1, SS.refl, p0⟩, ?_⟩
  rintro i m σ2 H2 ⟨rfl, hi, F2, τ2, I2, s2, p2⟩
  have src := so.keep _ _ _ _ _ _ s0 s2
  by_cases hlt : i < ts.length
  · refine .inr ⟨so.go i F2 H2 σ2 τ2 src I2.wf hlt, fun σ3 H3 => ∃ F3 τ3, Inn X.K B F3 H3 σ3 τ3 ∧ SS F1 σ (lck u τ1) F3 σ3 τ3 ∧ Pv (i + 1) τ3, fun σ3 H3 ⟨F3, τ3, I3, s3, p3⟩ => ⟨ts.length - (i + 1), by omega, rfl, hlt, F3, τ3, I3, s3, p3⟩, fun x H3 y => ?_⟩
    have ht : ts[i]? = some ts[i] := List.getElem?_eq_getElem hlt
    obtain ⟨F3, gr, rep⟩ := so.yld i ts[i] F2 H2 σ2 τ2 x H3 src I2.wf ht y
    have I3 := I2.step (gr.wf I2.wf) gr.step
    have s3 : SS F1 σ (lck u τ1) F3 σ2 τ2 := s2.trans (gr.step (σ := σ2) (τ := τ2)).ss
    refine ⟨F3, τ2, ts[i], _, I3, rep, turn i _ τ2 ht p2, fun σ4 τ4 I4 s4 _ _ h4 => ?_⟩
    refine ⟨F3, τ4, _, I4, h4, ?_⟩
    have s14 := s3.trans s4
    exact ⟨fun F5 H5 σ5 τ5 I5 s5 p5 => ⟨F5, τ5, I5, s14.trans s5, p5⟩, fun F5 H5 σ5 τ5 I5 s5 h5 => ok.nx F5 H5 σ5 _ (unl_inn I5) (s01.ss.trans (unl_ss (s14.trans s5))) h5,
      fun F5 H5 σ5 τ5 I5 s5 p5 => ⟨F5, τ5, I5, s14.trans s5, p5⟩, ok.rt⟩
  · have e : i = ts.length := by omega
    subst e
    exact .inl ⟨so.stop F2 H2 σ2 τ2 src I2.wf, ok.nx F2 H2 σ2 _ (unl_inn I2) (s01.ss.trans (unl_ss s2)) (fin τ2 p2)⟩⟩
end
end TL

namespace TL
open PySem L2
section
variable {X : Cx} {B : Bs} {tg : Expr}
def iSeq3 (K : PySem.W.Frag) (te : TE) : TI := fun σ H R => te σ H fun x H1 => (∃ a xs, x = .ref a ∧ SqL K H1 a xs ∧ R (Itl K a) H1) ∨ (∃ a xs, x = .ref a ∧ SqT K H1 a xs ∧ R (Itt K a) H1) ∨ ∃ z, x = .str z ∧ R (Its z) H1
theorem pi_seq3 {l : Expr} {tl : TE} (hl : PE X l tl) : PI X tg l (iSeq3 X.K tl) := by
  refine ⟨fun pins s σ H R I h => ?_⟩
  refine thn (hl.run pins s σ H _ I h) fun v s1 ⟨x, H1, I1, r1, q1⟩ => ?_
  have sub : ∀ (te : TE), PE X l te → True := fun _ _ => trivial
  rcases q1 with ⟨a, xs, rfl, hq, q⟩ | ⟨a, xs, rfl, hq, q⟩ | ⟨z, rfl, q⟩
  · cases r1
    obtain ⟨its, rv, p, hz⟩ := I1.list hq
    refine PySem.wpAny_pyIter_list p.isList ?_
    refine ⟨s1.heap.objs.size, [s1.heap.objs.size], _, _, H1, rfl, I1.kept (t' := s1.toks) fun b o e => Heap.get?_push_of_some _ e, turn_list a _, ⟨_, Heap.get?_push_size _ rfl, rfl, rfl⟩, fun b hb => ?_, q⟩
    have e : b = s1.heap.objs.size := by simpa using hb
    subst e
    exact I1.fpOk (Nat.le_refl _) (I1.hok.fresh (Nat.le_refl _))
  · cases r1
    obtain ⟨its, rv, p, hz⟩ := I1.tuple hq
    refine PySem.wpAny_pyIter_tuple (show s1.heap.IsTuple a its.toArray from p) ?_
    refine ⟨s1.heap.objs.size, [s1.heap.objs.size], _, _, H1, rfl, I1.kept (t' := s1.toks) fun b o e => Heap.get?_push_of_some _ e, turn_tuple a _, ⟨_, Heap.get?_push_size _ rfl, rfl, rfl⟩, fun b hb => ?_, q⟩
    have e : b = s1.heap.objs.size := by simpa using hb
    subst e
    exact I1.fpOk (Nat.le_refl _) (I1.hok.fresh (Nat.le_refl _))
  · obtain ⟨t, rfl⟩ := r1
    cases ha : z.cps.all (· < 128)
    · exact PySem.wpAny_pyIter_wide ha (pi_one (tk := s1.toks) I1 _ (turn_str _ z t "str_iterator" (.inr rfl)) ⟨_, Heap.get?_push_size _ rfl, rfl, rfl⟩ q)
    · exact PySem.wpAny_pyIter_ascii ha (pi_one (tk := s1.toks) I1 _ (turn_str _ z t "str_ascii_iterator" (.inl rfl)) ⟨_, Heap.get?_push_size _ rfl, rfl, rfl⟩ q)
def signs (z : Str) : List T := z.cps.toList.map fun c => T.str ⟨#[c]⟩
def seqI (t : T) (P : List T → Prop) : Prop := match t with
  | .lst ts => P ts
  | .tup ts => P ts
  | .scr ns => P (ns.map T.int)
  | .str z => P (signs z)
  | _ => False
abbrev TTX := TSt → (T → Lk → TSt → Prop) → Prop
structure SrcV (K : PySem.W.Frag) (v : V) (t : T) (S : Hp → St → TSt → Prop) : Prop where
  keep : ∀ F σ τ F' σ' τ', S F σ τ → SS F σ τ F' σ' τ' → S F' σ' τ'
  rd : ∀ F H σ τ, S F σ τ → WF K F H σ τ → RdT K F H v t
def liftX (K : PySem.W.Frag) (B : Bs) (tx : TTX) : TE := fun σ H Q => ∃ F τ P, Inn K B F H σ τ ∧ tx τ P ∧
  ∀ t u τ1 F1 H1 v S, P t u τ1 → Inn K B F1 H1 σ τ1 → Stp F H σ τ F1 H1 τ1 → SrcV K v t S → S F1 σ (lck u τ1) → Q v H1
structure TPX (X : Cx) (B : Bs) (e : Expr) (tx : TTX) : Prop where
  pe : PE X e (liftX X.K B tx)
def sf (te : TTE) : TTX := fun τ P => te τ fun r τ1 => frzR r τ1 fun t τ2 => P t none τ2
def sl (i : Nat) : TTX := fun τ P => match τ[i]? with
  | some (some s) => P s.t (some i) τ
  | _ => False
theorem tpx_f {e : Expr} {te : TTE} (h : TPE X B e te) : TPX X B e (sf te) := ⟨PE.imp h.pe fun σ H Q q => by
  obtain ⟨F, τ, P, I, ht, hq⟩ := q
  refine lift.go I ht fun r τ1 F1 H1 v h1 I1 s1 r1 f1 => ?_
  obtain ⟨u, τ2, F2, hp, I2, s2, rep, _⟩ := freeze I I1 s1 r1 f1 h1
  exact hq u none τ2 F2 H1 v (fun F _ _ => Rep X.K F u v) hp I2 s2 ⟨fun F σ τ F' σ' τ' r s => Rep.mono s.sub _ _ r, fun F H σ τ r _ => .inl r⟩ rep⟩
theorem tpx_l (i : Nat) {x : Str} {pos : Pos} (hN : X.N[i]? = some x := by rfl) (hv : Vis X.env.scope x := by first | exact Or.inl rfl | exact Or.inr (Or.inl rfl) | exact Or.inr (Or.inr rfl)) (hd : (x == ("__debug__" : Str)) = false := by decide)
    (hcd : (x == ("__classdict__" : Str)) = false := by decide) : TPX X B (.Name x pos) (sl i) := ⟨PE.imp (tpe_v (B := B) i (pos := pos) hN hv hd hcd).pe fun σ H Q q => by
  obtain ⟨F, τ, P, I, ht, hq⟩ := q
  unfold sl at ht
  split at ht
  · rename_i s es
    refine lift.go I (P := fun r τ1 => r = .var i ∧ τ1 = τ) ⟨⟨s, es⟩, rfl, rfl⟩ fun r τ1 F1 H1 v ⟨er, et⟩ I1 s1 r1 f1 => ?_
    subst er et
    obtain ⟨hv, _⟩ := r1
    refine hq s.t (some i) τ1 F1 H1 v (fun F σ τ => σ[i]? = some (some v) ∧ ∃ k, τ[i]? = some (some ⟨k, true, s.t⟩)) ht I1 s1 ⟨fun F σ τ F' σ' τ' ⟨e, k, hk⟩ q => ?_, fun F H σ τ ⟨e, k, hk⟩ w => ?_⟩ ⟨hv, s.k, ?_⟩
    · obtain ⟨h1, h2⟩ := q.lock i k _ hk
      exact ⟨h2.trans e, k, h1⟩
    · have := RR.rd w (r := .var i) (v := v) ⟨e, _, hk⟩
      rwa [show R.t τ (.var i) = s.t by simp [R.t, slT, hk]] at this
    · have q := lckT_of (l := true) (i := i) (k := s.k) (b := s.l) (t := s.t) es
      rw [if_pos rfl] at q
      exact q
  · exact ht.elim⟩
/-- the same value walked -/
theorem SrcV.seq {K : PySem.W.Frag} {F H : Hp} {σ : St} {τ : TSt} {v : V} {t : T} {S : Hp → St → TSt → Prop} {P : List T → Prop} {R : It → Hp → Prop} (s : SrcV K v t S) (h0 : S F σ τ) (w : WF K F H σ τ) (h : seqI t P)
    (k : ∀ ts J, P ts → SrcOk K J ts S → R J H) : (∃ a xs, v = .ref a ∧ SqL K H a xs ∧ R (Itl K a) H) ∨ (∃ a xs, v = .ref a ∧ SqT K H a xs ∧ R (Itt K a) H) ∨ ∃ z, v = .str z ∧ R (Its z) H := by
  have rd0 := s.rd F H σ τ h0 w
  cases t with
  | lst ts =>
    obtain ⟨a, vs, rfl, hl, z, rp⟩ := rd0.lst w.sub
    have go : ∀ F H σ τ, S F σ τ → WF K F H σ τ → ∃ vs, SqL K H a vs ∧ Reps K F ts vs := fun F H σ τ h w => by
      obtain ⟨a', vs, e, hl, z, rp⟩ := (s.rd F H σ τ h w).lst w.sub
      cases e
      exact ⟨vs, SqL.of hl, rp⟩
    refine .inl ⟨a, vs, rfl, SqL.of hl, k ts _ h ⟨s.keep, fun i F H σ τ q w hi => ?_, fun F H σ τ q w => ?_, fun i t F H σ τ x H' q w ht y => ?_⟩⟩
    · obtain ⟨vs, hl, rp⟩ := go F H σ τ q w
      obtain ⟨v, e, _⟩ := rp.get (List.getElem?_eq_getElem hi)
      exact ⟨vs, v, hl, e⟩
    · obtain ⟨vs, hl, rp⟩ := go F H σ τ q w
      exact ⟨vs, hl, by rw [rp.len]; exact Nat.le_refl _⟩
    · obtain ⟨vs, hl, rp⟩ := go F H σ τ q w
      obtain ⟨e, y⟩ := y
      subst e
      obtain ⟨v, e, r⟩ := rp.get ht
      rw [y vs hl] at e
      cases e
      exact ⟨F, Grow.refl w.sub, r⟩
  | tup ts =>
    obtain ⟨a, vs, rfl, hl, z, rp⟩ := rd0.tup
    have go : ∀ F H σ τ, S F σ τ → WF K F H σ τ → ∃ vs, SqT K H a vs ∧ Reps K F ts vs := fun F H σ τ h w => by
      obtain ⟨a', vs, e, hl, z, rp⟩ := (s.rd F H σ τ h w).tup
      cases e
      exact ⟨vs, SqT.mono w.sub hl, rp⟩
    refine .inr (.inl ⟨a, vs, rfl, SqT.mono w.sub hl, k ts _ h ⟨s.keep, fun i F H σ τ q w hi => ?_, fun F H σ τ q w => ?_, fun i t F H σ τ x H' q w ht y => ?_⟩⟩)
    · obtain ⟨vs, hl, rp⟩ := go F H σ τ q w
      obtain ⟨v, e, _⟩ := rp.get (List.getElem?_eq_getElem hi)
      exact ⟨vs, v, hl, e⟩
    · obtain ⟨vs, hl, rp⟩ := go F H σ τ q w
      exact ⟨vs, hl, by rw [rp.len]; exact Nat.le_refl _⟩
    · obtain ⟨vs, hl, rp⟩ := go F H σ τ q w
      obtain ⟨e, y⟩ := y
      subst e
      obtain ⟨v, e, r⟩ := rp.get ht
      rw [y vs hl] at e
      cases e
      exact ⟨F, Grow.refl w.sub, r⟩
  | scr ns =>
    obtain ⟨a, rfl, hl, z⟩ := rd0.scr
    have go : ∀ F H σ τ, S F σ τ → WF K F H σ τ → SqL K H a (ns.map V.int) := fun F H σ τ h w => by
      obtain ⟨a', e, hl, z⟩ := (s.rd F H σ τ h w).scr
      cases e
      exact w.sub.seq hl
    refine .inl ⟨a, _, rfl, w.sub.seq hl, k (ns.map T.int) _ h ⟨s.keep, fun i F H σ τ q w hi => ?_, fun F H σ τ q w => ?_, fun i t F H σ τ x H' q w ht y => ?_⟩⟩
    · rw [List.length_map] at hi
      exact ⟨_, .int ns[i], go F H σ τ q w, by rw [List.getElem?_map, List.getElem?_eq_getElem hi]; rfl⟩
    · exact ⟨_, go F H σ τ q w, by rw [List.length_map, List.length_map]; exact Nat.le_refl _⟩
    · obtain ⟨e, y⟩ := y
      subst e
      have y := y _ (go F H' σ τ q w)
      rw [List.getElem?_map] at ht y
      cases e : ns[i]? with
      | none => rw [e] at ht; cases ht
      | some n =>
        rw [e] at ht y
        cases ht
        cases y
        exact ⟨F, Grow.refl w.sub, rfl⟩
  | str z =>
    have e := rd0.str
    subst e
    refine .inr (.inr ⟨z, rfl, k (signs z) _ h ⟨s.keep, fun i F H σ τ q w hi => ?_, fun F H σ τ q w => ?_, fun i t F H σ τ x H' q w ht y => ?_⟩⟩)
    · show i < z.cps.size
      simpa [signs] using hi
    · show z.cps.size ≤ (signs z).length
      simp [signs]
    · obtain ⟨e, c, hc, ex⟩ := y
      subst e ex
      refine ⟨F, Grow.refl w.sub, ?_⟩
      unfold signs at ht
      rw [List.getElem?_map, Array.getElem?_toList, hc] at ht
      cases ht
      exact rfl
  | _ => exact h.elim
/-- for x in e -/
def tiSeq (tx : TTX) : TTI := fun τ P => tx τ fun t u τ1 => seqI t fun ts => P ts u τ1
theorem tpi_seq {e : Expr} {tx : TTX} (h : TPX X B e tx) : TPI X B tg e (tiSeq tx) := ⟨PI.imp (pi_seq3 h.pe) fun σ H R q => by
  obtain ⟨F, τ, P, I, ht, hq⟩ := q
  exact ⟨F, τ, _, I, ht, fun t u τ1 F1 H1 v S h1 I1 s1 sv s0 => sv.seq s0 (lck_inn I1).wf h1 fun ts J hp so => hq ts u τ1 F1 H1 J S hp I1 s1 so s0⟩⟩
/-- range -/
def rngT (lo : Int) (n : Nat) : List T := (List.range n).map fun (k : Nat) => T.int (lo + k)
def tiRng1 (tl : TTL) : TTI := fun τ P => tl τ fun ts τ1 => match ts with
  | [.int j] => (-(2 ^ 62) ≤ j ∧ j < 2 ^ 62) ∧ P (rngT 0 j.toNat) none τ1
  | _ => False
def tiRng2 (tl : TTL) : TTI := fun τ P => tl τ fun ts τ1 => match ts with
  | [.int i, .int j] => (-(2 ^ 62) ≤ i ∧ i < 2 ^ 62 ∧ -(2 ^ 62) ≤ j ∧ j < 2 ^ 62) ∧ P (rngT i (j - i).toNat) none τ1
  | _ => False
theorem rng_ok {K : PySem.W.Frag} {lo : Int} {n : Nat} : SrcOk K (Itr lo n) (rngT lo n) (fun _ _ _ => True) := by
  have e : (rngT lo n).length = n := by simp [rngT]
  refine ⟨fun _ _ _ _ _ _ _ _ => trivial, fun i F H σ τ _ w hi => by rw [e] at hi; exact hi, fun F H σ τ _ w => by rw [e]; exact Nat.le_refl _, fun i t F H σ τ x H' _ w ht y => ?_⟩
  obtain ⟨e1, e2⟩ := y
  subst e1 e2
  refine ⟨F, Grow.refl w.sub, ?_⟩
  have hi : i < n := by
    have := (List.getElem?_eq_some_iff.mp ht).1
    rwa [e] at this
  unfold rngT at ht
  rw [List.getElem?_map, List.getElem?_range hi] at ht
  cases ht
  exact rfl
theorem tpi_rng1 {a : Expr} {tl : TTL} {p pos : Pos} (hg : Gl X "range") (hm : X.mg "range" = none) (ha : TPL X B [a] tl) (hs : starEach [a] X.env = [(false, eval a X.env)] := by rfl) : TPI X B tg (.Call (.Name "range" p) [a] [] pos) (tiRng1 tl) :=
  ⟨PI.imp (pi_range1 hg hm ha.pa hs) fun σ H R q => by
  obtain ⟨F, τ, P, I, ht, hq⟩ := q
  refine ⟨F, τ, _, I, ht, fun ts τ1 F1 H1 vs h1 I1 s1 r1 => ?_⟩
  match ts, h1 with
  | [.int j], ⟨⟨b1, b2⟩, hp⟩ =>
    obtain ⟨v, r, rfl, e1, e2⟩ := r1
    cases e1
    cases e2
    exact ⟨j, rfl, b1, b2, hq _ none τ1 F1 H1 _ _ hp I1 s1 rng_ok trivial⟩⟩
def wipeT (τ : TSt) : List Nat → TSt
  | [] => τ
  | v :: vs => (wipeT τ vs).set v none
/-- the slots vs as they were in τ -/
def backT (τ : TSt) (τ' : TSt) : List Nat → TSt
  | [] => τ'
  | v :: vs => (backT τ τ' vs).set v ((τ[v]?).getD none)
def frzAt (τ : TSt) (v : Nat) : Prop := match τ[v]? with
  | some none => True
  | some (some ⟨.frz, false, _⟩) => True
  | _ => False
structure TPTs (X : Cx) (B : Bs) (es : List Expr) (t : TTT) : Prop where
  pts : PTs X es (liftT X.K B t)
theorem PTs.imp {es : List Expr} {t u : TT} (h : PTs X es t) (i : ∀ σ H Q, u σ H Q → t σ H Q) : PTs X es u := ⟨fun pins s σ H Q I q => h.run pins s σ H Q I (i σ H Q q)⟩
def ttYes : TTT := fun τ P => P true τ
theorem tpts_nil : TPTs X B [] ttYes := ⟨PTs.imp pts_nil fun σ H Q h => by
  obtain ⟨F, τ, P, I, h, q⟩ := h
  exact q true τ F H h I Stp.refl⟩
def ttLc (ti : TTI) (g : TTG) (tt : TTT) (te : TTE) (vs : List Nat) : TTE := fun τ P => ti τ fun ts u τ1 => (∀ v ∈ vs, frzAt (lck u τ1) v) ∧ ∃ Pv : Nat → List T → TSt → Prop, Pv 0 [] (wipeT (lck u τ1) vs) ∧
  (∀ i t acc τ2, ts[i]? = some t → Pv i acc τ2 → g t τ2 fun τ3 => tt τ3 fun b τ4 =>
    if b = true then te τ4 fun r τ5 => frzR r τ5 fun y τ6 => acc.length < sizeLine ∧ Pv (i + 1) (acc ++ [y]) (wipeT τ6 vs) else Pv (i + 1) acc (wipeT τ4 vs)) ∧
  ∀ acc τ2, Pv ts.length acc τ2 → P (.val true (.lst acc)) (unl u τ1 (backT (lck u τ1) τ2 vs))
end
section
variable {K : PySem.W.Frag} {B : Bs} {F H : Hp} {σ : St} {τ : TSt}
theorem wipeT_len : ∀ vs : List Nat, (wipeT τ vs).length = τ.length
  | [] => rfl
  | v :: vs => by unfold wipeT; rw [List.length_set, wipeT_len vs]
theorem wipeT_get {i : Nat} {s : Sl} : ∀ {vs : List Nat}, (wipeT τ vs)[i]? = some (some s) → τ[i]? = some (some s) ∧ i ∉ vs
  | [], h => ⟨h, by simp⟩
  | v :: vs, h => by
    unfold wipeT at h
    rcases set_get h with ⟨_, z, _⟩ | ⟨hj, z⟩
    · cases z
    · obtain ⟨h1, h2⟩ := wipeT_get z
      exact ⟨h1, by simp [hj, h2]⟩
theorem wipeT_of {i : Nat} : ∀ {vs : List Nat}, i ∉ vs → (wipeT τ vs)[i]? = τ[i]?
  | [], _ => rfl
  | v :: vs, h => by
    simp only [List.mem_cons, not_or] at h
    unfold wipeT
    rw [List.getElem?_set_ne (Ne.symm h.1), wipeT_of h.2]
theorem wipe_of {i : Nat} : ∀ {vs : List Nat}, i ∉ vs → (wipe σ vs)[i]? = σ[i]?
  | [], _ => rfl
  | v :: vs, h => by
    simp only [List.mem_cons, not_or] at h
    unfold wipe
    rw [List.getElem?_set_ne (Ne.symm h.1), wipe_of h.2]
/-- a state whose slots in vs are forgotten -/
theorem wipe_inn {σ' : St} {vs : List Nat} (I : Inn K B F H σ τ) (hl : σ'.length = σ.length) (hs : ∀ j, j ∉ vs → σ'[j]? = σ[j]?) : Inn K B F H σ' (wipeT τ vs) := by
  have own' : ∀ (j : Nat) (k : Kd) (a : Addr), Owns σ' (wipeT τ vs) j k a → Owns σ τ j k a := fun j k a ⟨l, t, h1, h2, h3⟩ => by
    obtain ⟨h, hn⟩ := wipeT_get h1
    exact ⟨l, t, h, h2, by rw [← hs j hn]; exact h3⟩
  refine ⟨⟨I.wf.sub, by rw [wipeT_len, hl]; exact I.wf.len, fun i l t h => ?_, fun i k l t h hk => ?_, fun i j k l a h1 h2 => I.wf.sep i j k l a (own' _ _ _ h1) (own' _ _ _ h2)⟩, I.sub, I.new, I.fr, I.dom, fun i a h => I.ow i a (own' _ _ _ h), fun i j a h => I.ar i j a (own' _ _ _ h)⟩
  · obtain ⟨h, hn⟩ := wipeT_get h
    obtain ⟨v, e, r⟩ := I.wf.frz i l t h
    exact ⟨v, by rw [hs i hn]; exact e, r⟩
  · obtain ⟨h, hn⟩ := wipeT_get h
    obtain ⟨a, e, q⟩ := I.wf.own i k l t h hk
    exact ⟨a, by rw [hs i hn]; exact e, q⟩
theorem wipe_eq {σ σ' : St} : ∀ {vs : List Nat}, σ'.length = σ.length → (∀ j, j ∉ vs → σ'[j]? = σ[j]?) → wipe σ' vs = wipe σ vs := by
  intro vs hl hs
  apply List.ext_getElem?
  intro i
  by_cases hi : i ∈ vs
  · have lem : ∀ (σ : St) (vs : List Nat), i ∈ vs → (wipe σ vs)[i]? = if i < σ.length then some none else none := fun σ vs => by
      induction vs with
      | nil => intro h; cases h
      | cons v vs ih =>
        intro h
        unfold wipe
        by_cases hv : v = i
        · subst hv
          by_cases hl : v < σ.length
          · rw [if_pos hl, List.getElem?_set_self (by rw [wipe_length]; exact hl)]
          · rw [if_neg hl, List.getElem?_eq_none (by rw [List.length_set, wipe_length]; omega)]
        · rw [List.getElem?_set_ne hv]
          rcases List.mem_cons.mp h with z | z
          · exact absurd z.symm hv
          · exact ih z
    rw [lem σ' vs hi, lem σ vs hi, hl]
  · rw [wipe_of hi, wipe_of hi, hs i hi]
theorem backT_len {τ' : TSt} : ∀ vs : List Nat, (backT τ τ' vs).length = τ'.length
  | [] => rfl
  | v :: vs => by unfold backT; rw [List.length_set, backT_len vs]
theorem backT_get {τ' : TSt} {i : Nat} {s : Sl} : ∀ {vs : List Nat}, (backT τ τ' vs)[i]? = some (some s) → (i ∈ vs ∧ τ[i]? = some (some s)) ∨ (i ∉ vs ∧ τ'[i]? = some (some s))
  | [], h => .inr ⟨by simp, h⟩
  | v :: vs, h => by
    unfold backT at h
    rcases set_get h with ⟨hj, z, _⟩ | ⟨hj, z⟩
    · subst hj
      refine .inl ⟨by simp, ?_⟩
      cases e : τ[i]? with
      | none => rw [e] at z; cases z
      | some o => rw [e] at z; exact congrArg some z.symm
    · rcases backT_get z with ⟨h1, h2⟩ | ⟨h1, h2⟩
      · exact .inl ⟨by simp [h1], h2⟩
      · exact .inr ⟨by simp [hj, h1], h2⟩
theorem backT_of {τ' : TSt} {i : Nat} : ∀ {vs : List Nat}, i ∉ vs → (backT τ τ' vs)[i]? = τ'[i]?
  | [], _ => rfl
  | v :: vs, h => by
    simp only [List.mem_cons, not_or] at h
    unfold backT
    rw [List.getElem?_set_ne (Ne.symm h.1), backT_of h.2]
theorem backT_in {τ' : TSt} {i : Nat} {s : Sl} (hl : τ'.length = τ.length) : ∀ {vs : List Nat}, i ∈ vs → τ[i]? = some (some s) → (backT τ τ' vs)[i]? = some (some s)
  | v :: vs, h, e => by
    unfold backT
    by_cases hv : v = i
    · subst hv
      rw [List.getElem?_set_self (by rw [backT_len, hl]; exact (List.getElem?_eq_some_iff.mp e).1), e]
      rfl
    · rw [List.getElem?_set_ne hv]
      rcases List.mem_cons.mp h with z | z
      · exact absurd z.symm hv
      · exact backT_in hl z e
/-- behind the block: what was there is there again -/
theorem back_ok {F' H' : Hp} {τ' : TSt} {σw : St} {vs : List Nat} (I : Inn K B F H σ τ) (fz : ∀ v ∈ vs, frzAt τ v) (hl : σw.length = σ.length) (hs : ∀ j, j ∉ vs → σw[j]? = σ[j]?) (I' : Inn K B F' H' σw τ') (s : Stp F H σw (wipeT τ vs) F' H' τ') (hw : ∀ v ∈ vs, ∀ s, τ'[v]? ≠ some (some s)) :
    Inn K B F' H' σ (backT τ τ' vs) ∧ Stp F H σ τ F' H' (backT τ τ' vs) := by
  have fz' : ∀ i ∈ vs, ∀ s, τ[i]? = some (some s) → s.k = .frz ∧ s.l = false := fun i hi s h => by
    have q := fz i hi
    unfold frzAt at q
    obtain ⟨k, l, t⟩ := s
    rw [h] at q
    split at q
    · rename_i e; cases e
    · rename_i e; cases e; exact ⟨rfl, rfl⟩
    · exact q.elim
  have own' : ∀ (j : Nat) (k : Kd) (a : Addr), Owns σ (backT τ τ' vs) j k a → j ∉ vs ∧ Owns σw τ' j k a := fun j k a ⟨l, t, h1, h2, h3⟩ => by
    rcases backT_get h1 with ⟨hj, h⟩ | ⟨hj, h⟩
    · exact absurd (fz' j hj _ h).1 h2
    · exact ⟨hj, l, t, h, h2, by rw [hs j hj]; exact h3⟩
  have ownw : ∀ (j : Nat) (k : Kd) (a : Addr), Owns σw (wipeT τ vs) j k a → Owns σ τ j k a := fun j k a ⟨l, t, h1, h2, h3⟩ => by
    obtain ⟨h, hn⟩ := wipeT_get h1
    exact ⟨l, t, h, h2, by rw [← hs j hn]; exact h3⟩
  have hlen : τ'.length = τ.length := by rw [I'.wf.len, hl, I.wf.len]
  have w : WF K F' H' σ (backT τ τ' vs) := by
    refine ⟨I'.wf.sub, by rw [backT_len, hlen]; exact I.wf.len, fun i l t h => ?_, fun i k l t h hk => ?_, fun i j k l a h1 h2 => I'.wf.sep i j k l a (own' _ _ _ h1).2 (own' _ _ _ h2).2⟩
    · rcases backT_get h with ⟨hj, h⟩ | ⟨hj, h⟩
      · obtain ⟨v, e, r⟩ := I.wf.frz i l t h
        exact ⟨v, e, Rep.mono s.sub _ _ r⟩
      · obtain ⟨v, e, r⟩ := I'.wf.frz i l t h
        exact ⟨v, by rw [← hs i hj]; exact e, r⟩
    · rcases backT_get h with ⟨hj, h⟩ | ⟨hj, h⟩
      · exact absurd (fz' i hj _ h).1 hk
      · obtain ⟨a, e, q⟩ := I'.wf.own i k l t h hk
        exact ⟨a, by rw [← hs i hj]; exact e, q⟩
  have st : Stp F H σ τ F' H' (backT τ τ' vs) := by
    refine ⟨s.sub, fun a h => ?_, fun a o h n => s.fr a o h fun i k q => n i k (ownw i k a q), s.dom, fun i k a h => ownw i k a (s.own i k a (own' i k a h).2), fun i x h => ?_, fun i k t h => ?_⟩
    · rcases s.new a h with z | z | ⟨i, z⟩
      · exact .inl z
      · exact .inr (.inl z)
      · exact .inr (.inr ⟨i, ownw i _ a z⟩)
    · by_cases hi : i ∈ vs
      · exact ⟨x, backT_in hlen hi h⟩
      · obtain ⟨s', e⟩ := s.slot i x (by rw [wipeT_of hi]; exact h)
        exact ⟨s', by rw [backT_of hi]; exact e⟩
    · by_cases hi : i ∈ vs
      · exact absurd (fz' i hi _ h).2 (by simp)
      · have e := s.lock i k t (by rw [wipeT_of hi]; exact h)
        rw [backT_of hi]
        exact e
  exact ⟨I.step w st, st⟩
end
section
variable {X : Cx} {B : Bs}
/-- the list at D goes on -/
theorem grow_D {K : PySem.W.Frag} {F H : Hp} {σ : St} {τ : TSt} {D : Addr} {o : HO} (I : Inn K B F H σ τ) (nF : F D = none) (no : ∀ i k, ¬ Owns σ τ i k D) (nB : B.H D = none) (hd : H D ≠ none) : Inn K B F (upd H D o) σ τ := by
  refine ⟨⟨fun a u e => ?_, I.wf.len, I.wf.frz, fun i k l t h hk => ?_, I.wf.sep⟩, I.sub, I.new, fun a u e n => ?_, fun a h => ?_, I.ow, I.ar⟩
  · have ha : a ≠ D := fun z => by subst z; rw [nF] at e; cases e
    rw [upd_ne ha]
    exact I.wf.sub a u e
  · obtain ⟨a, e, n, q⟩ := I.wf.own i k l t h hk
    have ha : a ≠ D := fun z => no i k ⟨l, t, h, hk, by rw [← z]; exact e⟩
    exact ⟨a, e, n, q.mono (fun _ _ h => h) (upd_ne ha)⟩
  · have ha : a ≠ D := fun z => by subst z; rw [nB] at e; cases e
    rw [upd_ne ha]
    exact I.fr a u e n
  · by_cases ha : a = D
    · subst ha; rw [upd_same]; simp
    · rw [upd_ne ha]; exact I.dom a h
theorem lc_imp {ti : TTI} {g : TTG} {tt : TTT} {te : TTE} {vs is : List Nat} (hv : ∀ v ∈ is, v ∈ vs) (σ : St) (H : Hp) (Q : VK) (h : lift X.K B (ttLc ti g tt te vs) σ H Q) : tLc (liftI X.K B ti) (liftG X.K B is g) (liftT X.K B tt) (lift X.K B te) vs σ H Q := by
  obtain ⟨F, τ, P, I, h, hq⟩ := h
  refine ⟨F, τ, _, I, h, fun ts u τ1 F1 H1 J S h1 I1 s1 so s0 D nD => ?_⟩
  obtain ⟨fz, Pv, p0, turn, fin⟩ := h1
  have IL : Inn X.K B F1 H1 σ (lck u τ1) := lck_inn I1
  have nB : B.H D = none := by
    cases q : B.H D with
    | none => rfl
    | some o => exact absurd nD (I1.dom D (by rw [q]; simp))
  have fzk : ∀ v ∈ vs, ∀ s, (lck u τ1)[v]? = some (some s) → s.k = .frz ∧ s.l = false := fun i hi s h => by
    have q := fz i hi
    unfold frzAt at q
    obtain ⟨k, l, t⟩ := s
    rw [h] at q
    split at q
    · rename_i e; cases e
    · rename_i e; cases e; exact ⟨rfl, rfl⟩
    · exact q.elim
  have Iw : Inn X.K B F1 H1 (wipe σ vs) (wipeT (lck u τ1) vs) := wipe_inn IL (wipe_length σ vs) fun j hj => wipe_of hj
  have ssw : SS F1 σ (lck u τ1) F1 (wipe σ vs) (wipeT (lck u τ1) vs) := ⟨fun _ _ h => h, fun i k t h => by
    have hi : i ∉ vs := fun z => by have := (fzk i z _ h).2; cases this
    rw [wipeT_of hi, wipe_of hi]
    exact ⟨h, rfl⟩⟩
  have nFD1 : F1 D = none := I1.wf.sub.free nD
  have noD1 : ∀ i k, ¬ Owns (wipe σ vs) (wipeT (lck u τ1) vs) i k D := fun i k ⟨l, t, h1, h2, h3⟩ => by
    obtain ⟨a, e, _, o⟩ := Iw.wf.own i k l t h1 h2
    rw [h3] at e
    cases e
    obtain ⟨ob, ho⟩ := o.ex
    rw [nD] at ho
    cases ho
  have g0 : Grow F1 H1 F1 (upd H1 D (.lst [])) := Grow.own I1.wf.sub nD
  refine ⟨fun i m H2 => m = ts.length - i ∧ i ≤ ts.length ∧ ∃ F2 τ2 acc av, Inn X.K B F2 H2 (wipe σ vs) τ2 ∧ Stp F1 H1 (wipe σ vs) (wipeT (lck u τ1) vs) F2 H2 τ2 ∧ (∀ v ∈ vs, ∀ s, τ2[v]? ≠ some (some s)) ∧ F2 D = none ∧ H2 D = some (.lst av) ∧ av.length ≤ sizeLine ∧ Reps X.K F2 acc av ∧ Pv i acc τ2,
    ⟨ts.length, by simp, Nat.zero_le _, F1, _, [], [], Iw.step (g0.wf Iw.wf) g0.step, g0.step, fun v hv s e => (wipeT_get e).2 hv, nFD1, upd_same, Nat.zero_le _, rfl, p0⟩, ?_⟩
  rintro i m H2 ⟨rfl, hi, F2, τ2, acc, av, I2, s2, hw, nF, hD, hz, hr, p2⟩
  have src := so.keep _ _ _ _ _ _ s0 (ssw.trans s2.ss)
  have noD : ∀ i k, ¬ Owns (wipe σ vs) τ2 i k D := fun i k q => noD1 i k (s2.own i k D q)
  by_cases hlt : i < ts.length
  · refine .inr ⟨so.go i F2 H2 _ τ2 src I2.wf hlt, fun H3 => ∃ F2 τ2 acc av, Inn X.K B F2 H3 (wipe σ vs) τ2 ∧ Stp F1 H1 (wipe σ vs) (wipeT (lck u τ1) vs) F2 H3 τ2 ∧ (∀ v ∈ vs, ∀ s, τ2[v]? ≠ some (some s)) ∧ F2 D = none ∧ H3 D = some (.lst av) ∧ av.length ≤ sizeLine ∧ Reps X.K F2 acc av ∧ Pv (i + 1) acc τ2,
      fun H3 ⟨F2, τ2, acc, av, q⟩ => ⟨ts.length - (i + 1), by omega, rfl, hlt, F2, τ2, acc, av, q⟩, fun x H3 y => ?_⟩
    have ht : ts[i]? = some ts[i] := List.getElem?_eq_getElem hlt
    obtain ⟨F3, gr, rep⟩ := so.yld i ts[i] F2 H2 _ τ2 x H3 src I2.wf ht y
    have I3 := I2.step (gr.wf I2.wf) gr.step
    have s3 := s2.trans gr.step
    have nF3 : F3 D = none := by
      cases q : F3 D with
      | none => rfl
      | some o =>
        rcases gr.new D (by rw [q]; simp) with z | z
        · exact absurd nF z
        · rw [hD] at z; cases z
    have hD3 := gr.hp D _ hD
    refine ⟨F3, τ2, ts[i], _, I3, rep, turn i _ acc τ2 ht p2, fun σ4 τ4 I4 s4 n4 f4 h4 => ?_⟩
    have o4 : ∀ i k a, Owns σ4 τ4 i k a → Owns (wipe σ vs) τ2 i k a := fun i k a ⟨l, t, h1, h2, h3⟩ => by
      by_cases hi : i ∈ is
      · exact absurd (f4 i hi _ h1) h2
      · obtain ⟨e1, e2⟩ := n4.2 i hi
        exact ⟨l, t, by rw [← e2]; exact h1, h2, by rw [← e1]; exact h3⟩
    have e4 : ∀ j, j ∉ vs → σ4[j]? = σ[j]? := fun j hj => by
      rw [(n4.2 j fun z => hj (hv j z)).1, wipe_of hj]
    have l4 : σ4.length = σ.length := by rw [n4.1, wipe_length]
    have no4 : ∀ i k, ¬ Owns σ4 τ4 i k D := fun i k q => noD i k (o4 i k D q)
    -- from a state of the turn to the wiped one
    have wiped : ∀ {F6 H6 τ6}, Inn X.K B F6 H6 σ4 τ6 → Stp F3 H3 σ4 τ4 F6 H6 τ6 → Inn X.K B F6 H6 (wipe σ vs) (wipeT τ6 vs) ∧ Stp F1 H1 (wipe σ vs) (wipeT (lck u τ1) vs) F6 H6 (wipeT τ6 vs) ∧ F6 D = none ∧ H6 D = some (.lst av) ∧ Same F2 F6 ∧ ∀ i k, ¬ Owns (wipe σ vs) (wipeT τ6 vs) i k D := fun {F6 H6 τ6} I6 s6 => by
      have I6w : Inn X.K B F6 H6 (wipe σ vs) (wipeT τ6 vs) := wipe_inn I6 (by rw [wipe_length, l4]) fun j hj => by rw [wipe_of hj, e4 j hj]
      have nF6 : F6 D = none := by
        cases q : F6 D with
        | none => rfl
        | some o =>
          rcases s6.new D (by rw [q]; simp) with z | z | ⟨i, z⟩
          · exact absurd nF3 z
          · rw [hD3] at z; cases z
          · exact absurd z (no4 i _)
      have ow6 : ∀ i k a, Owns (wipe σ vs) (wipeT τ6 vs) i k a → Owns (wipe σ vs) τ2 i k a := fun i k a ⟨l, t, h1, h2, h3⟩ => by
        obtain ⟨h, hn⟩ := wipeT_get h1
        exact o4 i k a (s6.own i k a ⟨l, t, h, h2, by rw [e4 i hn, ← wipe_of hn]; exact h3⟩)
      refine ⟨I6w, s3.trans ⟨s6.sub, fun a h => ?_, fun a o h n => s6.fr a o h fun i k q => n i k (o4 i k a q), s6.dom, ow6, fun i x h => ?_, fun i k t h => ?_⟩, nF6, s6.fr D _ hD3 no4, gr.sub.trans s6.sub, fun i k q => noD i k (ow6 i k D q)⟩
      · rcases s6.new a h with z | z | ⟨i, z⟩
        · exact .inl z
        · exact .inr (.inl z)
        · exact .inr (.inr ⟨i, o4 i _ a z⟩)
      · have hi : i ∉ vs := fun z => hw i z x h
        obtain ⟨s', e⟩ := s6.slot i x (by rw [(n4.2 i fun z => hi (hv i z)).2]; exact h)
        exact ⟨s', by rw [wipeT_of hi]; exact e⟩
      · have hi : i ∉ vs := fun z => hw i z _ h
        rw [wipeT_of hi]
        exact s6.lock i k t (by rw [(n4.2 i fun z => hi (hv i z)).2]; exact h)
    refine ⟨wipe_eq l4 e4, F3, τ4, _, I4, h4, fun b τ5 F5 H5 h5 I5 s5 => ?_⟩
    cases b with
    | false =>
      rw [if_neg Bool.false_ne_true] at h5 ⊢
      obtain ⟨a1, a2, a3, a4, a5, _⟩ := wiped I5 s5
      exact ⟨F5, _, acc, av, a1, a2, fun v hv s e => (wipeT_get e).2 hv, a3, a4, hz, Reps.mono a5 _ _ hr, h5⟩
    | true =>
      rw [if_pos rfl] at h5 ⊢
      refine lift.go I5 h5 fun r τ6 F6 H6 v h6 I6 s6 r6 f6 => ?_
      obtain ⟨t, τ7, F7, ⟨hl7, p7⟩, I7, s7, rep7, _⟩ := freeze I5 I6 s6 r6 f6 h6
      obtain ⟨a1, a2, a3, a4, a5, a6⟩ := wiped I7 (s5.trans s7)
      have hav : acc.length = av.length := hr.len
      refine ⟨av, a4, by rw [← hav]; exact hl7, F7, _, acc ++ [t], av ++ [v], grow_D a1 a3 a6 nB (by rw [a4]; simp), ?_, fun v hv s e => (wipeT_get e).2 hv, a3, upd_same, ?_, Reps.append (Reps.mono a5 _ _ hr) ⟨v, [], rfl, rep7, rfl⟩, p7⟩
      · refine ⟨a2.sub, a2.new, fun a o h n => ?_, fun a h => ?_, a2.own, a2.slot, a2.lock⟩
        · have ha : a ≠ D := fun z => by subst z; rw [nD] at h; cases h
          rw [upd_ne ha]
          exact a2.fr a o h n
        · by_cases ha : a = D
          · subst ha; rw [upd_same]; simp
          · rw [upd_ne ha]; exact a2.dom a h
      · rw [List.length_append, List.length_singleton]
        omega
  · have e : i = ts.length := by omega
    subst e
    refine .inl ⟨so.stop F2 H2 _ τ2 src I2.wf, ?_⟩
    obtain ⟨b1, b2⟩ := back_ok IL fz (wipe_length σ vs) (fun j hj => wipe_of hj) I2 s2 hw
    have nob : ∀ i k, ¬ Owns σ (backT (lck u τ1) τ2 vs) i k D := fun i k q => by
      obtain ⟨a, e, _, o⟩ := b1.wf.own i k q.choose q.choose_spec.choose q.choose_spec.choose_spec.1 q.choose_spec.choose_spec.2.1
      rw [q.choose_spec.choose_spec.2.2] at e
      cases e
      have q1 := lck_owns.mp (b2.own i k D q)
      obtain ⟨l, t, h1, h2, h3⟩ := q1
      obtain ⟨a, e, _, o⟩ := I1.wf.own i k l t h1 h2
      rw [h3] at e
      cases e
      obtain ⟨ob, ho⟩ := o.ex
      rw [nD] at ho
      cases ho
    have b2' := unl_stp b2
    refine hq _ _ F2 H2 (.ref D) (fin acc τ2 p2) (unl_inn b1) (s1.trans b2') ⟨D, rfl, nF, ⟨av, hD, hz, hr⟩, fun i k q => nob i k (unl_owns.mp q)⟩ ⟨D, rfl, ?_⟩
    cases q : H D with
    | none => rfl
    | some o => exact absurd nD (s1.dom D (by rw [q]; simp))
theorem tpe_lc {elt tg iter : Expr} {ifs : List Expr} {scope : Scope} {own : List (Str × Nat)} {pos : Pos} {ti : TTI} {g : TTG} {tt : TTT} {te : TTE} {is : List Nat} (hc : X.calm = true) (hN : X.N.Nodup) (hi : TPI X B tg iter ti) (ok : BlkOk X.N X.env.scope scope own) (hv : ∀ v ∈ is, v ∈ own.map (·.2))
    (hg : ∀ (s : Shared) (H : Hp) (C : Addr) (cl : List (Str × Addr)) (fp : List Addr), TPG (X.blk s H scope (compEnvC scope cl C X.env) fp) B is tg g) (ht : ∀ (s : Shared) (H : Hp) (C : Addr) (cl : List (Str × Addr)) (fp : List Addr), TPTs (X.blk s H scope (compEnvC scope cl C X.env) fp) B ifs tt)
    (he : ∀ (s : Shared) (H : Hp) (C : Addr) (cl : List (Str × Addr)) (fp : List Addr), TPE (X.blk s H scope (compEnvC scope cl C X.env) fp) B elt te) (hs : ∀ x, foldedSetIterable iter X.env x = pure x := by intro _; rfl) :
    TPE X B (.ListComp elt [⟨tg, iter, ifs, 0⟩] scope pos) (ttLc ti g tt te (own.map (·.2))) :=
  ⟨PE.imp (pe_lc hc hN hi.pi ok (fun s H C cl fp => (hg s H C cl fp).pg) (fun s H C cl fp => (ht s H C cl fp).pts) (fun s H C cl fp => (he s H C cl fp).pe) hs) (lc_imp hv)⟩
end
end TL

namespace TL
open PySem L2

section
variable {X : Cx} {B : Bs}
def taNil : TTA := fun τ P => P [] τ
def taF (te : TTE) (ta : TTA) : TTA := fun τ P => te τ fun r τ1 => frzR r τ1 fun t τ2 => ta τ2 fun rs τ3 => P (.val false t :: rs) τ3
def taV (i : Nat) (ta : TTA) : TTA := fun τ P => (∃ s, τ[i]? = some (some s)) ∧ ta τ fun rs τ3 => P (.var i :: rs) τ3
theorem tpa_nil : TPA X B [] taNil := ⟨PA.imp pa_nil fun σ H Q h => by
  obtain ⟨F, τ, P, I, ht, hq⟩ := h
  exact hq _ _ _ _ _ ht I Stp.refl .nil⟩
theorem tpa_f {e : Expr} {es : List Expr} {te : TTE} {ta : TTA} (ha : TPE X B e te) (hr : TPA X B es ta) (hs : starEach (e :: es) X.env = (false, eval e X.env) :: starEach es X.env := by rfl) : TPA X B (e :: es) (taF te ta) := ⟨PA.imp (pa_cons ha.pe hr.pa hs) fun σ H Q h => by
  obtain ⟨F, τ, P, I, ht, hq⟩ := h
  refine lift.go I ht fun r τ1 F1 H1 v h1 I1 s1 r1 f1 => ?_
  obtain ⟨u, τ2, F2, hp, I2, s2, rep, _⟩ := freeze I I1 s1 r1 f1 h1
  refine ⟨F2, τ2, _, I2, hp, fun rs τ3 F3 H3 vs h3 I3 s3 r3 => ?_⟩
  exact hq _ _ _ _ _ h3 I3 (s2.trans s3) (.cons (r := .val false u) (Rep.mono s3.sub _ _ rep) (fun t z => by cases z) r3)⟩
theorem tpa_v (i : Nat) {x : Str} {pos : Pos} {es : List Expr} {ta : TTA} (hr : TPA X B es ta) (hN : X.N[i]? = some x := by rfl) (hv : Vis X.env.scope x := by first | exact Or.inl rfl | exact Or.inr (Or.inl rfl) | exact Or.inr (Or.inr rfl)) (hd : (x == ("__debug__" : Str)) = false := by decide)
    (hcd : (x == ("__classdict__" : Str)) = false := by decide) (hs : starEach (.Name x pos :: es) X.env = (false, eval (.Name x pos) X.env) :: starEach es X.env := by rfl) : TPA X B (.Name x pos :: es) (taV i ta) := ⟨PA.imp (pa_cons (tpe_v (B := B) i (pos := pos) hN hv hd hcd).pe hr.pa hs) fun σ H Q h => by
  obtain ⟨F, τ, P, I, ⟨hs, ht⟩, hq⟩ := h
  refine lift.go I (P := fun r τ1 => r = .var i ∧ τ1 = τ) ⟨hs, rfl, rfl⟩ fun r τ1 F1 H1 v ⟨er, et⟩ I1 s1 r1 f1 => ?_
  subst er et
  refine ⟨F1, τ1, _, I1, ht, fun rs τ3 F3 H3 vs h3 I3 s3 r3 => ?_⟩
  exact hq _ _ _ _ _ h3 I3 (s1.trans s3) (.cons (r := .var i) (RR.step s3 r1) (fun t z => by cases z) r3)⟩
end

/-- from the arguments: what is wanted of the result and of what the arguments are then; of what is raised -/
abbrev TSp := List Sl → (R → List T → Prop) → (String → List T → Prop) → Prop
def argA (as : List Sl) (vs : List V) : List (Option Addr) := List.zipWith (fun (s : Sl) (v : V) => match s.k, v with
  | .arg _, .ref a => some a
  | _, _ => none) as vs
structure AOk (K : PySem.W.Frag) (F H : Hp) (vs : List V) (as : List Sl) : Prop where
  sub : Same F H
  len : vs.length = as.length
  lk : ∀ (j : Nat) (s : Sl), as[j]? = some s → s.l = false
  fz : ∀ (j : Nat) (s : Sl) (v : V), as[j]? = some s → vs[j]? = some v → s.k = .frz → Rep K F s.t v
  ow : ∀ (j : Nat) (s : Sl) (v : V), as[j]? = some s → vs[j]? = some v → s.k ≠ .frz → s.k = .arg j ∧ ∃ a, v = .ref a ∧ F a = none ∧ OwnAt K F H a s.t
  sep : ∀ (i j : Nat) (a : Addr), (argA as vs)[i]? = some (some a) → (argA as vs)[j]? = some (some a) → i = j
/-- behind the call -/
structure COk (K : PySem.W.Frag) (F H : Hp) (args : List (Option Addr)) (F' H' : Hp) (ts : List T) : Prop where
  sub : Same F F'
  in_ : Same F' H'
  new : ∀ a, F' a ≠ none → F a ≠ none ∨ H a = none
  fr : ∀ a o, H a = some o → some a ∉ args → H' a = some o
  dom : ∀ a, H a ≠ none → H' a ≠ none
  ar : ∀ (j : Nat) (a : Addr), args[j]? = some (some a) → ∃ t, ts[j]? = some t ∧ F' a = none ∧ OwnAt K F' H' a t
def RC (K : PySem.W.Frag) (H F' H' : Hp) (v : V) : R → Prop
  | .val k t => RG K H F' H' v k t
  | .var _ => False
def liftSp (K : PySem.W.Frag) (cls : String → Addr) (S : TSp) : Sp := fun vs H Q E => ∃ F as PR PX, AOk K F H vs as ∧ S as PR PX ∧
  (∀ r ts F' H' v, PR r ts → COk K F H (argA as vs) F' H' ts → RC K H F' H' v r → Q v H') ∧
  (∀ c ts F' H', PX c ts → COk K F H (argA as vs) F' H' ts → E (.ref (cls c)) none H')

def mkA (τ : TSt) : Nat → List R → List Sl
  | _, [] => []
  | j, .val _ t :: rs => ⟨.frz, false, t⟩ :: mkA τ (j + 1) rs
  | j, .var i :: rs => (match τ[i]? with
    | some (some ⟨.frz, _, t⟩) => ⟨.frz, false, t⟩
    | some (some ⟨_, _, t⟩) => ⟨.arg j, false, t⟩
    | _ => ⟨.frz, false, .non⟩) :: mkA τ (j + 1) rs
def putB : List R → List T → TSt → (TSt → Prop) → Prop
  | .val _ _ :: rs, _ :: ts, τ, P => putB rs ts τ P
  | .var i :: rs, t :: ts, τ, P => (match τ[i]? with
    | some (some ⟨.frz, _, _⟩) => putB rs ts τ P
    | some (some ⟨k, false, _⟩) => putB rs ts (τ.set i (some ⟨k, false, t⟩)) P
    | some (some ⟨_, true, u⟩) => u = t ∧ putB rs ts τ P
    | _ => False)
  | [], _, τ, P => P τ
  | _ :: _, [], _, _ => False
/-- no name is handed in twice where it is owned -/
def varsOk : List R → Bool
  | [] => true
  | .val _ _ :: rs => varsOk rs
  | .var i :: rs => (rs.all fun r => match r with | .var j => !(i == j) | _ => true) && varsOk rs
abbrev callS (S : TSp) : TSp := S
def ttCall (S : TSp) (XT : String → TSt → Prop) (ta : TTA) : TTE := fun τ P => ta τ fun rs τ1 => varsOk rs = true ∧ callS S (mkA τ1 0 rs) (fun r ts => ts.length = rs.length ∧ putB rs ts τ1 fun τ2 => P r τ2) (fun c ts => ts.length = rs.length ∧ putB rs ts τ1 fun τ2 => XT c τ2)

section
variable {K : PySem.W.Frag} {B : Bs} {F H F' H' : Hp} {σ : St} {τ : TSt}
theorem varsOk_ne : ∀ {rs : List R} {i j m : Nat}, varsOk rs = true → rs[i]? = some (.var m) → rs[j]? = some (.var m) → i = j
  | .val _ _ :: rs, 0, j, m, h, h1, h2 => by cases h1
  | .val _ _ :: rs, i + 1, 0, m, h, h1, h2 => by cases h2
  | .val _ _ :: rs, i + 1, j + 1, m, h, h1, h2 => congrArg (· + 1) (varsOk_ne (rs := rs) h (by simpa using h1) (by simpa using h2))
  | .var n :: rs, 0, 0, m, h, h1, h2 => rfl
  | .var n :: rs, 0, j + 1, m, h, h1, h2 => by
    cases h1
    have h := (Bool.and_eq_true_iff.mp h).1
    have := List.all_eq_true.mp h (.var n) (List.mem_of_getElem? (by simpa using h2))
    simp at this
  | .var n :: rs, i + 1, 0, m, h, h1, h2 => by
    cases h2
    have h := (Bool.and_eq_true_iff.mp h).1
    have := List.all_eq_true.mp h (.var n) (List.mem_of_getElem? (by simpa using h1))
    simp at this
  | .var n :: rs, i + 1, j + 1, m, h, h1, h2 => congrArg (· + 1) (varsOk_ne (rs := rs) (Bool.and_eq_true_iff.mp h).2 (by simpa using h1) (by simpa using h2))
  | [], i, j, m, h, h1, h2 => by simp at h1
theorem RRs.len {vs : List V} : ∀ {rs : List R}, RRs K F H σ τ vs rs → vs.length = rs.length := fun h => by
  induction h with
  | nil => rfl
  | cons _ _ _ ih => rw [List.length_cons, List.length_cons, ih]
theorem RRs.get {vs : List V} {rs : List R} {i : Nat} {r : R} (h : RRs K F H σ τ vs rs) (e : rs[i]? = some r) : ∃ v, vs[i]? = some v ∧ RR K F H σ τ v r ∧ ∀ t, r ≠ .val true t := by
  induction h generalizing i with
  | nil => simp at e
  | cons h1 h2 _ ih =>
    cases i with
    | zero => simp at e; subst e; exact ⟨_, rfl, h1, h2⟩
    | succ i => simpa using ih (by simpa using e)
theorem mkA_len (τ : TSt) : ∀ (j : Nat) (rs : List R), (mkA τ j rs).length = rs.length
  | _, [] => rfl
  | j, .val _ _ :: rs => by simp [mkA, mkA_len τ (j + 1) rs]
  | j, .var _ :: rs => by simp [mkA, mkA_len τ (j + 1) rs]
theorem mkA_get {τ : TSt} : ∀ {rs : List R} {b i : Nat} {s : Sl}, (mkA τ b rs)[i]? = some s → (∃ k t, rs[i]? = some (.val k t) ∧ s = ⟨.frz, false, t⟩) ∨ ∃ m, rs[i]? = some (.var m) ∧ (((∃ l t, τ[m]? = some (some ⟨.frz, l, t⟩) ∧ s = ⟨.frz, false, t⟩) ∨ ∃ k l t, τ[m]? = some (some ⟨k, l, t⟩) ∧ k ≠ .frz ∧ s = ⟨.arg (b + i), false, t⟩) ∨ ∀ x, τ[m]? ≠ some (some x))
  | [], _, _, _, h => by simp [mkA] at h
  | .val k t :: rs, b, 0, s, h => by
    simp [mkA] at h
    exact .inl ⟨k, t, rfl, h.symm⟩
  | .val k t :: rs, b, i + 1, s, h => by
    have h' : (mkA τ (b + 1) rs)[i]? = some s := by simpa [mkA] using h
    have := mkA_get h'
    rw [show b + 1 + i = b + (i + 1) by omega] at this
    simpa using this
  | .var m :: rs, b, 0, s, h => by
    refine .inr ⟨m, rfl, ?_⟩
    simp only [mkA, List.getElem?_cons_zero, Option.some.injEq] at h
    split at h
    · rename_i l t e
      exact .inl (.inl ⟨l, t, e, h.symm⟩)
    · rename_i k l t ne e
      exact .inl (.inr ⟨k, l, t, e, ne, h.symm⟩)
    · rename_i n1 n2
      exact .inr fun ⟨k, l, t⟩ e => n2 k l t e
  | .var m :: rs, b, i + 1, s, h => by
    have h' : (mkA τ (b + 1) rs)[i]? = some s := by simpa [mkA] using h
    have := mkA_get h'
    rw [show b + 1 + i = b + (i + 1) by omega] at this
    simpa using this
theorem argA_get {as : List Sl} {vs : List V} {i : Nat} {a : Addr} (h : (argA as vs)[i]? = some (some a)) : ∃ s, as[i]? = some s ∧ s.k ≠ .frz ∧ vs[i]? = some (.ref a) := by
  unfold argA at h
  rw [List.getElem?_zipWith] at h
  cases e1 : as[i]? with
  | none => rw [e1] at h; simp at h
  | some s =>
    cases e2 : vs[i]? with
    | none => rw [e1, e2] at h; simp at h
    | some v =>
      rw [e1, e2] at h
      simp only [Option.some.injEq] at h
      split at h
      · rename_i j b ek
        cases h
        exact ⟨s, rfl, by rw [ek]; simp, rfl⟩
      · cases h
theorem argA_of {as : List Sl} {vs : List V} {i j : Nat} {a : Addr} {s : Sl} (h : as[i]? = some s) (hk : s.k = .arg j) (hv : vs[i]? = some (.ref a)) : (argA as vs)[i]? = some (some a) := by
  unfold argA
  rw [List.getElem?_zipWith, h, hv]
  simp only [hk]
/-- the arguments as the callee wants them -/
theorem call_args {vs : List V} {rs : List R} (w : WF K F H σ τ) (r : RRs K F H σ τ vs rs) (ok : varsOk rs = true) : AOk K F H vs (mkA τ 0 rs) ∧ ∀ (i : Nat) (a : Addr), (argA (mkA τ 0 rs) vs)[i]? = some (some a) → ∃ m k, rs[i]? = some (.var m) ∧ Owns σ τ m k a := by
  have key : ∀ (i : Nat) (a : Addr), (argA (mkA τ 0 rs) vs)[i]? = some (some a) → ∃ m k, rs[i]? = some (.var m) ∧ Owns σ τ m k a := fun i a h => by
    obtain ⟨s, hs, hk, hv⟩ := argA_get h
    rcases mkA_get hs with ⟨k, t, e, rfl⟩ | ⟨m, e, (⟨l, t, e2, rfl⟩ | ⟨k, l, t, e2, hk2, rfl⟩) | hn⟩
    · exact absurd rfl hk
    · exact absurd rfl hk
    · obtain ⟨v, hv', ⟨h1, _⟩, _⟩ := r.get e
      rw [hv] at hv'
      cases hv'
      exact ⟨m, k, e, l, t, e2, hk2, h1⟩
    · obtain ⟨v, hv', ⟨_, x, h1⟩, _⟩ := r.get e
      exact absurd h1 (hn x)
  refine ⟨⟨w.sub, by rw [mkA_len]; exact r.len, fun j s hs => ?_, fun j s v hs hv hk => ?_, fun j s v hs hv hk => ?_, fun i j a h1 h2 => ?_⟩, key⟩
  · rcases mkA_get hs with ⟨k, t, e, rfl⟩ | ⟨m, e, (⟨l, t, e2, rfl⟩ | ⟨k, l, t, e2, hk2, rfl⟩) | hn⟩
    · rfl
    · rfl
    · rfl
    · obtain ⟨v, hv', ⟨_, x, h1⟩, _⟩ := r.get e
      exact absurd h1 (hn x)
  · rcases mkA_get hs with ⟨k, t, e, rfl⟩ | ⟨m, e, (⟨l, t, e2, rfl⟩ | ⟨k, l, t, e2, hk2, rfl⟩) | hn⟩
    · obtain ⟨v', hv', h1, nt⟩ := r.get e
      rw [hv] at hv'
      cases hv'
      cases k with
      | false => exact h1
      | true => exact absurd rfl (nt t)
    · obtain ⟨v', hv', ⟨h1, _⟩, _⟩ := r.get e
      rw [hv] at hv'
      cases hv'
      obtain ⟨v', e3, rp⟩ := w.frz m l t e2
      rw [h1] at e3
      cases e3
      exact rp
    · cases hk
    · obtain ⟨v, hv', ⟨_, x, h1⟩, _⟩ := r.get e
      exact absurd h1 (hn x)
  · rcases mkA_get hs with ⟨k, t, e, rfl⟩ | ⟨m, e, (⟨l, t, e2, rfl⟩ | ⟨k, l, t, e2, hk2, rfl⟩) | hn⟩
    · exact absurd rfl hk
    · exact absurd rfl hk
    · obtain ⟨v', hv', ⟨h1, _⟩, _⟩ := r.get e
      rw [hv] at hv'
      cases hv'
      obtain ⟨a, e3, n, o⟩ := w.own m k l t e2 hk2
      rw [h1] at e3
      cases e3
      exact ⟨by simp, a, rfl, n, o⟩
    · obtain ⟨v, hv', ⟨_, x, h1⟩, _⟩ := r.get e
      exact absurd h1 (hn x)
  · obtain ⟨m, k, e1, o1⟩ := key i a h1
    obtain ⟨m', k', e2, o2⟩ := key j a h2
    have em := w.sep m m' k k' a o1 o2
    subst em
    exact varsOk_ne ok e1 e2
/-- what stands in the slots behind a call -/
structure PutOk (rs : List R) (ts : List T) (τ τ' : TSt) : Prop where
  len : τ'.length = τ.length
  old : ∀ (m : Nat) (s : Sl), τ'[m]? = some (some s) → ∃ u, τ[m]? = some (some ⟨s.k, s.l, u⟩) ∧ ((s.k ≠ .frz ∧ ∃ i : Nat, rs[i]? = some (.var m) ∧ ts[i]? = some s.t) ∨ (u = s.t ∧ (s.k = .frz ∨ ∀ i : Nat, rs[i]? ≠ some (.var m))))
  has : ∀ (m : Nat) (s : Sl), τ[m]? = some (some s) → ∃ u, τ'[m]? = some (some ⟨s.k, s.l, u⟩) ∧ (s.l = true → u = s.t)
theorem putB_ok : ∀ {rs : List R} {ts : List T} {τ : TSt} {P : TSt → Prop}, varsOk rs = true → putB rs ts τ P → ∃ τ', P τ' ∧ PutOk rs ts τ τ'
  | [], ts, τ, P, _, h => ⟨τ, h, rfl, fun m s e => ⟨s.t, e, .inr ⟨rfl, .inr fun i z => by simp at z⟩⟩, fun m s e => ⟨s.t, e, fun _ => rfl⟩⟩
  | .val _ _ :: rs, [], τ, P, ok, h => h.elim
  | .var _ :: rs, [], τ, P, ok, h => h.elim
  | .val k u :: rs, t :: ts, τ, P, ok, h => by
    obtain ⟨τ', hp, q⟩ := putB_ok (rs := rs) ok h
    refine ⟨τ', hp, q.len, fun m s e => ?_, q.has⟩
    obtain ⟨u', e1, c⟩ := q.old m s e
    refine ⟨u', e1, c.imp (fun ⟨hk, i, h1, h2⟩ => ⟨hk, i + 1, by simpa using h1, by simpa using h2⟩) fun ⟨h1, h2⟩ => ⟨h1, h2.imp id fun h2 i => ?_⟩⟩
    cases i with
    | zero => intro z; cases z
    | succ i => simpa using h2 i
  | .var n :: rs, t :: ts, τ, P, ok, h => by
    have ok' := (Bool.and_eq_true_iff.mp ok).2
    have nn : ∀ i : Nat, rs[i]? ≠ some (.var n) := fun i z => by
      have := varsOk_ne (rs := .var n :: rs) (i := 0) (j := i + 1) (m := n) ok rfl (by simpa using z)
      cases this
    unfold putB at h
    split at h
    · rename_i l u e
      obtain ⟨τ', hp, q⟩ := putB_ok (rs := rs) ok' h
      refine ⟨τ', hp, q.len, fun m s e1 => ?_, q.has⟩
      obtain ⟨u', e2, c⟩ := q.old m s e1
      refine ⟨u', e2, c.imp (fun ⟨hk, i, h1, h2⟩ => ⟨hk, i + 1, by simpa using h1, by simpa using h2⟩) fun ⟨h1, h2⟩ => ⟨h1, ?_⟩⟩
      by_cases hm : m = n
      · subst hm
        obtain ⟨k1, l1, t1⟩ := s
        rw [e] at e2
        cases e2
        exact .inl rfl
      · refine h2.imp id fun h2 i => ?_
        cases i with
        | zero => intro z; cases z; exact hm rfl
        | succ i => simpa using h2 i
    · rename_i k u ne e
      obtain ⟨τ', hp, q⟩ := putB_ok (rs := rs) ok' h
      have hl : n < τ.length := (List.getElem?_eq_some_iff.mp e).1
      have hkf : k ≠ .frz := ne
      refine ⟨τ', hp, by rw [q.len, List.length_set], fun m s e1 => ?_, fun m s e1 => ?_⟩
      · obtain ⟨u', e2, c⟩ := q.old m s e1
        rcases set_get e2 with ⟨hm, z, _⟩ | ⟨hm, z⟩
        · subst hm
          obtain ⟨k1, l1, t1⟩ := s
          cases z
          refine ⟨u, e, .inl ⟨hkf, 0, rfl, ?_⟩⟩
          rcases c with ⟨_, i, h1, _⟩ | ⟨h1, _⟩
          · exact absurd h1 (nn i)
          · rw [h1]; rfl
        · refine ⟨u', z, c.imp (fun ⟨hk, i, h1, h2⟩ => ⟨hk, i + 1, by simpa using h1, by simpa using h2⟩) fun ⟨h1, h2⟩ => ⟨h1, h2.imp id fun h2 i => ?_⟩⟩
          cases i with
          | zero => intro z; cases z; exact hm rfl
          | succ i => simpa using h2 i
      · by_cases hm : m = n
        · subst hm
          obtain ⟨k1, l1, t1⟩ := s
          rw [e] at e1
          cases e1
          obtain ⟨u', e2, _⟩ := q.has m ⟨k, false, t⟩ (List.getElem?_set_self hl)
          exact ⟨u', e2, fun z => by cases z⟩
        · exact q.has m s (by rw [List.getElem?_set_ne (Ne.symm hm)]; exact e1)
    · rename_i k u ne e
      have hkf : k ≠ .frz := ne
      obtain ⟨hu, h⟩ := h
      subst hu
      obtain ⟨τ', hp, q⟩ := putB_ok (rs := rs) ok' h
      refine ⟨τ', hp, q.len, fun m s e1 => ?_, q.has⟩
      obtain ⟨u', e2, c⟩ := q.old m s e1
      by_cases hm : m = n
      · subst hm
        obtain ⟨k1, l1, t1⟩ := s
        rw [e] at e2
        cases e2
        refine ⟨u, e, .inl ⟨hkf, 0, rfl, ?_⟩⟩
        rcases c with ⟨_, i, h1, _⟩ | ⟨h1, _⟩
        · exact absurd h1 (nn i)
        · rw [h1]; rfl
      · refine ⟨u', e2, c.imp (fun ⟨hk, i, h1, h2⟩ => ⟨hk, i + 1, by simpa using h1, by simpa using h2⟩) fun ⟨h1, h2⟩ => ⟨h1, h2.imp id fun h2 i => ?_⟩⟩
        cases i with
        | zero => intro z; cases z; exact hm rfl
        | succ i => simpa using h2 i
    · exact h.elim
/-- the state behind a call -/
theorem call_back {vs : List V} {rs : List R} {ts : List T} {τ' : TSt} (w : WF K F H σ τ) (r : RRs K F H σ τ vs rs) (ok : varsOk rs = true) (c : COk K F H (argA (mkA τ 0 rs) vs) F' H' ts) (p : PutOk rs ts τ τ') : WF K F' H' σ τ' ∧ Stp F H σ τ F' H' τ' := by
  obtain ⟨ao, key⟩ := call_args w r ok
  have own' : ∀ i k a, Owns σ τ' i k a → Owns σ τ i k a := fun i k a ⟨l, t, h1, h2, h3⟩ => by
    obtain ⟨u, e, _⟩ := p.old i _ h1
    exact ⟨l, u, e, h2, h3⟩
  refine ⟨⟨c.in_, by rw [p.len]; exact w.len, fun i l t h => ?_, fun i k l t h hk => ?_, fun i j k l a h1 h2 => w.sep i j k l a (own' _ _ _ h1) (own' _ _ _ h2)⟩, ⟨c.sub, fun a h => (c.new a h).imp id .inl, fun a o h n => c.fr a o h fun hm => ?_, c.dom, own', fun i s h => let ⟨u, e, _⟩ := p.has i s h; ⟨_, e⟩, fun i k t h => ?_⟩⟩
  · obtain ⟨u, e, q⟩ := p.old i _ h
    rcases q with ⟨hk, _⟩ | ⟨hu, _⟩
    · exact absurd rfl hk
    · subst hu
      obtain ⟨v, e2, rp⟩ := w.frz i l _ e
      exact ⟨v, e2, Rep.mono c.sub _ _ rp⟩
  · obtain ⟨u, e, q⟩ := p.old i _ h
    obtain ⟨a, ea, nF, o⟩ := w.own i k l u e hk
    refine ⟨a, ea, ?_⟩
    have oi : Owns σ τ i k a := ⟨l, u, e, hk, ea⟩
    rcases q with ⟨_, j, h1, h2⟩ | ⟨hu, hn⟩
    · -- handed in
      obtain ⟨v, hv, ⟨h3, _⟩, _⟩ := r.get h1
      have ev : v = .ref a := by rw [ea] at h3; cases h3; rfl
      subst ev
      have hs : ∃ s, (mkA τ 0 rs)[j]? = some s := by
        have : j < (mkA τ 0 rs).length := by rw [mkA_len]; exact (List.getElem?_eq_some_iff.mp h1).1
        exact ⟨_, List.getElem?_eq_getElem this⟩
      obtain ⟨s, hs⟩ := hs
      have hj : (argA (mkA τ 0 rs) vs)[j]? = some (some a) := by
        rcases mkA_get hs with ⟨k', t', e', rfl⟩ | ⟨m, e', (⟨l', t', e2, rfl⟩ | ⟨k', l', t', e2, hk2, rfl⟩) | hn⟩
        · rw [h1] at e'; cases e'
        · rw [h1] at e'
          cases e'
          rw [e] at e2
          cases e2
          exact absurd rfl hk
        · exact argA_of hs rfl hv
        · rw [h1] at e'
          cases e'
          exact absurd e (hn _)
      obtain ⟨t', e4, n4, o4⟩ := c.ar j a hj
      rw [h2] at e4
      cases e4
      exact ⟨n4, o4⟩
    · subst hu
      have hna : some a ∉ argA (mkA τ 0 rs) vs := fun hm => by
        obtain ⟨j, hj⟩ := List.mem_iff_getElem?.mp hm
        obtain ⟨m, k', e1, o1⟩ := key j a hj
        have := w.sep i m k k' a oi o1
        subst this
        rcases hn with hn | hn
        · exact hk hn
        · exact hn j e1
      obtain ⟨ob, ho⟩ := o.ex
      refine ⟨?_, o.mono c.sub ((c.fr a ob ho hna).trans ho.symm)⟩
      cases q : F' a with
      | none => rfl
      | some x =>
        rcases c.new a (by rw [q]; simp) with z | z
        · exact absurd nF z
        · rw [ho] at z; cases z
  · obtain ⟨j, hj⟩ := List.mem_iff_getElem?.mp hm
    obtain ⟨m, k', e1, o1⟩ := key j a hj
    exact n m k' o1
  · obtain ⟨u, e, q⟩ := p.has i _ h
    rw [q rfl] at e
    exact e
end

section
variable {X : Cx} {B : Bs} {CX : CXT} {k : Nat} {f : Addr} {fd : FuncData} {ps : List Str} {cls : String → Addr} {S : TSp} {XT : String → TSt → Prop} {ta : TTA} {E : XK} {x : Str} {p pos : Pos} {e : Expr} {es : List Expr}
theorem call_imp (hE : ∀ c F H σ τ, Inn X.K B F H σ τ → XT c τ → E (.ref (cls c)) none H) (σ : St) (H : Hp) (Q : VK) (h : lift X.K B (ttCall S XT ta) σ H Q) : tCall (liftSp X.K cls S) [] E (liftA X.K B ta) σ H Q := by
  obtain ⟨F, τ, P, I, h, hq⟩ := h
  refine ⟨F, τ, _, I, h, fun rs τ1 F1 H1 vs ⟨ok, h1⟩ I1 s1 r1 => ?_⟩
  obtain ⟨ao, key⟩ := call_args I1.wf r1 ok
  rw [List.append_nil]
  refine ⟨F1, mkA τ1 0 rs, _, _, ao, h1, fun r ts F' H' v ⟨hl, hp⟩ c rc => ?_, fun cn ts F' H' ⟨hl, hp⟩ c => ?_⟩
  · obtain ⟨τ2, hp2, po⟩ := putB_ok ok hp
    obtain ⟨w, st⟩ := call_back I1.wf r1 ok c po
    have I2 := I1.step w st
    cases r with
    | var i => exact rc.elim
    | val kk t =>
      refine hq _ _ F' H' v hp2 I2 (s1.trans st) ?_ ?_
      · cases kk with
        | false => exact rc
        | true =>
          obtain ⟨q, ev, n, nF, o⟩ := rc
          refine ⟨q, ev, nF, o, fun i k' z => ?_⟩
          obtain ⟨l, t', h1, h2, h3⟩ := st.own i k' q z
          obtain ⟨a, e4, _, o4⟩ := I1.wf.own i k' l t' h1 h2
          rw [h3] at e4
          cases e4
          obtain ⟨ob, ho⟩ := o4.ex
          rw [n] at ho
          cases ho
      · cases kk with
        | false => trivial
        | true =>
          obtain ⟨q, ev, n, nF, o⟩ := rc
          refine ⟨q, ev, ?_⟩
          cases z : H q with
          | none => rfl
          | some ob => exact absurd n (s1.dom q (by rw [z]; simp))
  · obtain ⟨τ2, hp2, po⟩ := putB_ok ok hp
    obtain ⟨w, st⟩ := call_back I1.wf r1 ok c po
    exact hE cn F' H' σ τ2 (I1.step w st) hp2
theorem tpe_call (F : FnOk X.prog X.w X.K X.mg X.base CX k f fd ps (liftSp X.K cls S)) (hr : Room k X.A) (hg : Gl X x) (hm : X.mg x = some (.ref f)) (hk : PySem.W.keepIn X.K (.ref f) = true) (hb : Binds X.K fd ps []) (hx : Passes CX X E)
    (hE : ∀ c F H σ τ, Inn X.K B F H σ τ → XT c τ → E (.ref (cls c)) none H) (ha : TPA X B (e :: es) ta) (hdb : (x == ("__debug__" : Str)) = false := by decide) (he : starEach (e :: es) X.env = (false, eval e X.env) :: starEach es X.env := by rfl) (hpl : (backTo pos (starEach es X.env)).any (·.1) = false := by rfl) :
    TPE X B (.Call (.Name x p) (e :: es) [] pos) (ttCall S XT ta) := ⟨PE.imp (pe_call F hr hg hm hk hb (dvs := []) .nil hx ha.pa hdb he hpl) (call_imp hE)⟩
end

/-- what the arguments are at the end -/
def keptN (τ : TSt) : Nat → List Sl → Prop
  | _, [] => True
  | j, s :: as => (match s.k with
    | .frz => True
    | _ => match τ[j]? with
      | some (some ⟨.arg m, _, _⟩) => m = j
      | _ => False) ∧ keptN τ (j + 1) as
def keptA (as : List Sl) (τ : TSt) : Prop := keptN τ 0 as
def outN (τ : TSt) : Nat → List Sl → List T
  | _, [] => []
  | j, _ :: as => slT τ j :: outN τ (j + 1) as
def outA (as : List Sl) (τ : TSt) : List T := outN τ 0 as
theorem keptN_get {τ : TSt} : ∀ {as : List Sl} {b j : Nat} {s : Sl}, keptN τ b as → as[j]? = some s → s.k ≠ .frz → ∃ t l, τ[b + j]? = some (some ⟨.arg (b + j), l, t⟩)
  | [], _, _, _, _, h, _ => by simp at h
  | x :: as, b, 0, s, h, e, hk => by
    simp at e
    subst e
    have h1 := h.1
    split at h1
    · rename_i e; exact absurd e hk
    · split at h1
      · rename_i m l t e
        subst h1
        exact ⟨t, l, e⟩
      · exact h1.elim
  | x :: as, b, j + 1, s, h, e, hk => by
    have := keptN_get (b := b + 1) (j := j) h.2 (by simpa using e) hk
    rwa [show b + 1 + j = b + (j + 1) by omega] at this
theorem outN_get {τ : TSt} : ∀ {as : List Sl} {b j : Nat}, j < as.length → (outN τ b as)[j]? = some (slT τ (b + j))
  | [], _, _, h => by simp at h
  | x :: as, b, 0, _ => rfl
  | x :: as, b, j + 1, h => by
    have := outN_get (τ := τ) (as := as) (b := b + 1) (j := j) (by simpa using h)
    rw [show b + 1 + j = b + (j + 1) by omega] at this
    simpa [outN] using this
def retR (r : R) (τ : TSt) (P : R → TSt → Prop) : Prop := match r with
  | .val k t => P (.val k t) τ
  | .var i => match τ[i]? with
    | some (some ⟨.frz, _, t⟩) => P (.val false t) τ
    | some (some ⟨.own, _, t⟩) => P (.val true t) τ
    | _ => False
def endsT (as : List Sl) (PR : R → List T → Prop) : TEnds where
  nx := fun τ => keptA as τ ∧ PR (.val false .non) (outA as τ)
  rt := fun r τ => retR r τ fun r' τ' => keptA as τ' ∧ PR r' (outA as τ')
def xtT (as : List Sl) (PX : String → List T → Prop) : String → TSt → Prop := fun c τ => keptA as τ ∧ PX c (outA as τ)
def startT (n : Nat) (as : List Sl) : TSt := as.map some ++ List.replicate (n - as.length) none
section
variable {K : PySem.W.Frag} {F H : Hp} {vs : List V} {as : List Sl}
theorem start_in {N : List Str} {ps : List Str} (ao : AOk K F H vs as) (hl : vs.length ≤ N.length) : Inn K ⟨F, H, argA as vs⟩ F H (L2.start N vs) (startT N.length as) := by
  have g : ∀ (i : Nat) (s : Sl), (startT N.length as)[i]? = some (some s) → as[i]? = some s := fun i s h => by
    unfold startT at h
    by_cases hi : i < as.length
    · rw [List.getElem?_append_left (by rw [List.length_map]; exact hi), List.getElem?_map] at h
      cases e : as[i]? with
      | none => rw [e] at h; cases h
      | some x => rw [e] at h; cases h; rfl
    · rw [List.getElem?_append_right (by rw [List.length_map]; omega), List.getElem?_replicate] at h
      split at h <;> cases h
  have gv : ∀ (i : Nat) (v : V), vs[i]? = some v → (L2.start N vs)[i]? = some (some v) := fun i v h => by
    unfold L2.start
    have hi : i < vs.length := (List.getElem?_eq_some_iff.mp h).1
    rw [List.getElem?_append_left (by rw [List.length_map]; exact hi), List.getElem?_map, h]
    rfl
  have hv : ∀ (i : Nat) (s : Sl), as[i]? = some s → ∃ v, vs[i]? = some v := fun i s h => by
    have hi : i < as.length := (List.getElem?_eq_some_iff.mp h).1
    exact ⟨_, List.getElem?_eq_getElem (by rw [ao.len]; exact hi)⟩
  have owns : ∀ i k a, Owns (L2.start N vs) (startT N.length as) i k a → k = .arg i ∧ (argA as vs)[i]? = some (some a) := fun i k a ⟨l, t, h1, h2, h3⟩ => by
    have hs := g i _ h1
    obtain ⟨v, ev⟩ := hv i _ hs
    rw [gv i v ev] at h3
    cases h3
    obtain ⟨hk, _⟩ := ao.ow i _ _ hs ev h2
    exact ⟨hk, argA_of hs hk ev⟩
  refine ⟨⟨ao.sub, ?_, fun i l t h => ?_, fun i k l t h hk => ?_, fun i j k l a h1 h2 => ao.sep i j a (owns _ _ _ h1).2 (owns _ _ _ h2).2⟩, fun _ _ h => h, fun _ h => .inl h, fun _ _ h _ => h, fun _ h => h, fun i a h => ?_, fun i j a h => ?_⟩
  · unfold startT L2.start
    simp [ao.len]
  · have hs := g i _ h
    obtain ⟨v, ev⟩ := hv i _ hs
    exact ⟨v, gv i v ev, ao.fz i _ v hs ev rfl⟩
  · have hs := g i _ h
    obtain ⟨v, ev⟩ := hv i _ hs
    obtain ⟨_, a, rfl, n, o⟩ := ao.ow i _ v hs ev hk
    exact ⟨a, gv i _ ev, n, o⟩
  · obtain ⟨e, _⟩ := owns _ _ _ h
    cases e
  · obtain ⟨e, h'⟩ := owns _ _ _ h
    cases e
    exact h'
theorem end_ok {F' H' : Hp} {σ : St} {τ : TSt} (ao : AOk K F H vs as) (I : Inn K ⟨F, H, argA as vs⟩ F' H' σ τ) (kp : keptA as τ) : COk K F H (argA as vs) F' H' (outA as τ) := by
  refine ⟨I.sub, I.wf.sub, I.new, I.fr, I.dom, fun j a h => ?_⟩
  obtain ⟨s, hs, hk, hv⟩ := argA_get h
  obtain ⟨t, l, ht⟩ := keptN_get kp hs hk
  rw [Nat.zero_add] at ht
  obtain ⟨a', e, n, o⟩ := I.wf.own j (.arg j) l t ht (by simp)
  have := I.ar j j a' ⟨l, t, ht, by simp, e⟩
  have e2 : a' = a := by
    have h' : (argA as vs)[j]? = some (some a') := this
    rw [h] at h'
    cases h'
    rfl
  subst e2
  have hj : j < as.length := (List.getElem?_eq_some_iff.mp hs).1
  refine ⟨slT τ j, ?_, n, ?_⟩
  · have := outN_get (τ := τ) (b := 0) hj
    rwa [Nat.zero_add] at this
  · rw [show slT τ j = t by simp [slT, ht]]
    exact o
theorem ret_ok {F' H' : Hp} {σ : St} {τ : TSt} {v : V} {r : R} {B : Bs} (I : Inn K B F' H' σ τ) (rr : RR K F' H' σ τ v r) (f : Fresh B.H v r) {P : R → TSt → Prop} (h : retR r τ P) : ∃ r', P r' τ ∧ RC K B.H F' H' v r' := by
  cases r with
  | val k t =>
    refine ⟨_, h, ?_⟩
    cases k with
    | false => exact rr
    | true =>
      obtain ⟨p, rfl, n, o, _⟩ := rr
      obtain ⟨p', e, nb⟩ := f
      cases e
      exact ⟨p, rfl, nb, n, o⟩
  | var i =>
    unfold retR at h
    obtain ⟨hv, s, hs⟩ := rr
    simp only at h
    split at h
    · rename_i l t e
      obtain ⟨v', e2, rp⟩ := I.wf.frz i l t e
      rw [hv] at e2
      cases e2
      exact ⟨_, h, rp⟩
    · rename_i l t e
      obtain ⟨a, e2, n, o⟩ := I.wf.own i .own l t e (by simp)
      rw [hv] at e2
      cases e2
      exact ⟨_, h, a, rfl, I.ow i a ⟨l, t, e, by simp, hv⟩, n, o⟩
    · exact h.elim
end
section
variable {P : Program} {w : World} {K : PySem.W.Frag} {mg : Str → Option Value} {base : Heap} {cls : String → Addr}
/-- the ends of a body, from what is wanted of its call -/
theorem ends_ok {N : List Str} {F H : Hp} {vs : List V} {as : List Sl} {Q : VK} {PR : R → List T → Prop} (ao : AOk K F H vs as) (hq : ∀ r ts F' H' v, PR r ts → COk K F H (argA as vs) F' H' ts → RC K H F' H' v r → Q v H') :
    EndsOk K ⟨F, H, argA as vs⟩ F (L2.start N vs) (startT N.length as) (endsT as PR) { nx := fun _ H' => Q .non H', rt := Q } :=
  ⟨fun F' H' σ τ I _ ⟨kp, h⟩ => hq _ _ F' H' .non h (end_ok ao I kp) rfl, fun _ _ _ _ _ _ h => h, fun _ _ _ _ _ _ h => h, fun F' H' σ τ r v I rr f h => by
    obtain ⟨r', ⟨kp, h⟩, rc⟩ := ret_ok (P := fun r' τ' => keptA as τ' ∧ PR r' (outA as τ')) I rr f h
    exact hq _ _ F' H' v h (end_ok ao I kp) rc⟩
/-- a def that raises nothing -/
theorem def0 {x qual : Str} {st : Stmt} {f : Addr} {fd : FuncData} {N ps : List Str} {k : Nat} {S : TSp} (Fn : Fun K x qual st f fd) (Sc : FnScope N ps (defScope st)) (hl : ∀ as PR PX, S as PR PX → as.length = ps.length) {t : TTS}
    (hb : ∀ (cdv : Value) (A : Around) (outer : List Env) (s : Shared) (H : Hp) (E : XK) (B : Bs), Room k (A.deeper (PyProof.Rows.envOfC qual (defScope st) s.heap.objs.size f cdv)) → TPSs (cxOf CX0 P w K mg base N qual (defScope st) f cdv A outer s H E).nox B (defBody st) t)
    (ht : ∀ as PR PX, S as PR PX → t (endsT as PR) (startT N.length as)) : FnOk P w K mg base CX0 (k + 1) f fd ps (liftSp K cls S) := by
  have hpl : ps.length ≤ N.length := by have := congrArg List.length Sc.pre; rw [List.length_take] at this; omega
  refine Fn.ok Sc (fun vs H Q E h => ?_) (fun cdv A outer s H vs Q E hr h => ?_)
  · obtain ⟨F, as, PR, PX, ao, hs, _⟩ := h
    rw [ao.len]
    exact hl as PR PX hs
  · obtain ⟨F, as, PR, PX, ao, hs, hq, _⟩ := h
    refine ⟨_, (hb cdv A outer s H E ⟨F, H, argA as vs⟩ hr).pss, F, startT N.length as, endsT as PR, start_in (ps := ps) ao (by rw [ao.len, hl as PR PX hs]; exact hpl), ht as PR PX hs, ends_ok ao hq⟩
end
end TL

namespace TL
open PySem L2

def addT : G2 := fun a b k => match a, b with
  | .int i, .int j => k false (.int (i + j))
  | .str x, .str y => x.length + y.length ≤ sizeLine ∧ k false (.str (x ++ y))
  | .lst xs, .lst ys => xs.length + ys.length ≤ sizeLine ∧ k true (.lst (xs ++ ys))
  | .tup xs, .tup ys => xs.length + ys.length ≤ sizeLine ∧ k false (.tup (xs ++ ys))
  | _, _ => False
def intT (C : Int → Int → Prop) (g : Int → Int → Int) : G2 := fun a b k => match a, b with
  | .int i, .int j => C i j ∧ k false (.int (g i j))
  | _, _ => False
def cmpT (g : Int → Int → Bool) : G2 := fun a b k => match a, b with
  | .int i, .int j => k false (.bl (g i j))
  | _, _ => False
def MulOk (i j : Int) : Prop := (-(2 ^ 64) < i ∧ i < 2 ^ 64) ∨ (-(2 ^ 64) < j ∧ j < 2 ^ 64) ∨ CMulX i j
def subT : G2 := intT (fun _ _ => True) fun i j => i - j
def mulT : G2 := fun a b k => match a, b with
  | .int i, .int j => MulOk i j ∧ k false (.int (i * j))
  | .lst xs, .int j => (-(2 ^ 63) ≤ j ∧ j < 2 ^ 63 ∧ xs.length * j.toNat ≤ sizeLine) ∧ k true (.lst (List.replicate j.toNat xs).flatten)
  | _, _ => False
def fdivT : G2 := intT (fun _ j => 0 < j ∧ j.natAbs.log2 < 9000) fun i j => i / j
def modT : G2 := intT (fun _ j => 0 < j) fun i j => i % j
def powT : G2 := intT (fun i j => 0 ≤ j ∧ j ≤ 1000000 ∧ i.natAbs < 2 ^ 64) fun i j => i ^ j.toNat
def shlT : G2 := intT (fun i j => 0 ≤ j ∧ j ≤ 1000000 ∧ i.natAbs < 2 ^ 64) fun i j => i * 2 ^ j.toNat
def ltT : G2 := cmpT fun i j => decide (i < j)
def leT : G2 := cmpT fun i j => decide (i ≤ j)
def gtT : G2 := cmpT fun i j => decide (j < i)
def geT : G2 := cmpT fun i j => decide (j ≤ i)
section
variable {X : Cx}
theorem opt_int {f : Value → Value → Sem Value} {C : Int → Int → Prop} {g : Int → Int → Int} (h : OpR X f (rI C fun i j => .int (g i j))) : OpT X f (intT C g) := by
  refine ⟨_, h, fun F H x y tx ty G Q s rx ry hg k => ?_⟩
  unfold intT at hg
  split at hg
  · exact ⟨_, _, rx.int, ry.int, hg.1, k false _ _ F H hg.2 (Grow.refl s) rfl⟩
  · exact hg.elim
theorem opt_cmp {f : Value → Value → Sem Value} {g : Int → Int → Bool} (h : OpR X f (rI0 fun i j => .bl (g i j))) : OpT X f (cmpT g) := by
  refine ⟨_, h, fun F H x y tx ty G Q s rx ry hg k => ?_⟩
  unfold cmpT at hg
  split at hg
  · exact ⟨_, _, rx.int, ry.int, k false _ _ F H hg (Grow.refl s) rfl⟩
  · exact hg.elim
theorem OpR.imp {f : Value → Value → Sem Value} {r r' : R2} (h : OpR X f r) (i : ∀ x y H Q, r' x y H Q → r x y H Q) : OpR X f r' := fun pins s σ H x y v u Q I rx ry q => h pins s σ H x y v u Q I rx ry (i x y H Q q)
theorem o_sub : OpT X (binaryOp .Sub) subT := opt_int (OpR.imp op_sub fun _ _ _ _ ⟨i, j, e, e', _, q⟩ => ⟨i, j, e, e', q⟩)
theorem o_fdiv : OpT X (binaryOp .FloorDiv) fdivT := opt_int op_fdivW
theorem o_mod : OpT X (binaryOp .Mod) modT := opt_int op_mod
theorem o_pow : OpT X (binaryOp .Pow) powT := opt_int op_pow
theorem o_lt : OpT X (compareOp .Lt) ltT := opt_cmp op_lt
theorem o_le : OpT X (compareOp .LtE) leT := opt_cmp op_le
theorem o_gt : OpT X (compareOp .Gt) gtT := opt_cmp op_gt
theorem o_mul : OpT X (binaryOp .Mult) mulT := by
  refine ⟨_, (op_mul (X := X)).or (op_mulX.or op_rep), fun F H x y tx ty G Q s rx ry hg k => ?_⟩
  unfold mulT at hg
  split at hg
  · obtain ⟨hc, hg⟩ := hg
    have e := k false _ _ F H hg (Grow.refl s) rfl
    rcases hc with hc | hc | hc
    · exact .inl ⟨_, _, rx.int, ry.int, .inl hc, e⟩
    · exact .inl ⟨_, _, rx.int, ry.int, .inr hc, e⟩
    · exact .inr (.inl ⟨_, _, rx.int, ry.int, hc, e⟩)
  · rename_i xs j
    obtain ⟨⟨h1, h2, h3⟩, hg⟩ := hg
    obtain ⟨a, vs, rfl, hl, z, r⟩ := rx.lst s
    refine .inr (.inr ⟨a, j, vs, rfl, ry.int, hl, h1, h2, by rw [← r.len]; exact h3, fun p np => ?_⟩)
    have rr : ∀ n, Reps X.K F (List.replicate n xs).flatten (List.replicate n vs).flatten := fun n => by
      induction n with
      | zero => exact rfl
      | succ n ih => rw [List.replicate_succ, List.replicate_succ, List.flatten_cons, List.flatten_cons]; exact Reps.append r ih
    refine k true _ _ F _ hg (Grow.own s np) ⟨p, rfl, np, s.free np, _, upd_same, ?_, rr _⟩
    rw [List.length_flatten, List.map_replicate, List.sum_replicate_nat, ← r.len, Nat.mul_comm]
    exact h3
  · exact hg.elim
theorem o_add : OpT X (binaryOp .Add) addT := by
  refine ⟨_, (op_add (X := X)).or (op_add_str.or (op_cat.or op_catA)), fun F H x y tx ty G Q s rx ry hg k => ?_⟩
  unfold addT at hg
  split at hg
  · exact .inl ⟨_, _, rx.int, ry.int, k false _ _ F H hg (Grow.refl s) rfl⟩
  · exact .inr (.inl ⟨_, _, rx.str, ry.str, hg.1, k false _ _ F H hg.2 (Grow.refl s) rfl⟩)
  · obtain ⟨a, xs, rfl, hl, z, r⟩ := rx.lst s
    obtain ⟨b, ys, rfl, hl2, z2, r2⟩ := ry.lst s
    have e : xs.length + ys.length ≤ sizeLine := by rw [← r.len, ← r2.len]; exact hg.1
    refine .inr (.inr (.inl ⟨a, b, xs, ys, rfl, rfl, hl, hl2, e, fun p np => ?_⟩))
    exact k true _ _ F _ hg.2 (Grow.own s np) ⟨p, rfl, np, s.free np, _, upd_same, by rw [List.length_append]; exact e, Reps.append r r2⟩
  · obtain ⟨a, xs, rfl, hl, z, r⟩ := rx.tup
    obtain ⟨b, ys, rfl, hl2, z2, r2⟩ := ry.tup
    have e : xs.length + ys.length ≤ sizeLine := by rw [← r.len, ← r2.len]; exact hg.1
    refine .inr (.inr (.inr ⟨a, b, xs, ys, rfl, rfl, SqT.mono s hl, SqT.mono s hl2, e, fun e0 => ?_, fun _ e1 => ?_, fun _ _ p np => ?_⟩))
    · exact k false _ _ F H hg.2 (Grow.refl s) ⟨b, xs ++ ys, rfl, by rw [e0]; exact hl2, by rw [List.length_append]; exact e, Reps.append r r2⟩
    · exact k false _ _ F H hg.2 (Grow.refl s) ⟨a, xs ++ ys, rfl, by rw [e1, List.append_nil]; exact hl, by rw [List.length_append]; exact e, Reps.append r r2⟩
    · exact k false _ _ _ _ hg.2 (Grow.frz s np) ⟨p, xs ++ ys, rfl, .inl (.inl upd_same), by rw [List.length_append]; exact e, Reps.mono (same_upd (s.free np)) _ _ (Reps.append r r2)⟩
  · exact hg.elim
end

mutual
def T.D : T → PyData
  | .non => .none
  | .bl b => .bool b
  | .int i => .int i
  | .str x => .str x
  | .tup ts => .tuple (T.Ds ts)
  | .lst ts => .list (T.Ds ts)
  | _ => .none
def T.Ds : List T → List PyData
  | [] => []
  | t :: ts => T.D t :: T.Ds ts
end
mutual
def T.plain : T → Bool
  | .non => true
  | .bl _ => true
  | .int _ => true
  | .str _ => true
  | .tup ts => T.plains ts
  | .lst ts => T.plains ts
  | _ => false
def T.plains : List T → Bool
  | [] => true
  | t :: ts => T.plain t && T.plains ts
end
section
variable {K : PySem.W.Frag} {F H : Hp}
mutual
theorem Rep.dp (s : Same F H) : ∀ (t : T) (v : V), t.plain = true → Rep K F t v → Dp K H v t.D
  | .non, _, _, h => by rw [show _ = V.non from h]; exact .non
  | .bl b, _, _, h => by rw [show _ = V.bl b from h]; exact .bl b
  | .int i, _, _, h => by rw [show _ = V.int i from h]; exact .int i
  | .str x, _, _, h => by rw [show _ = V.str x from h]; exact .str x
  | .tup ts, _, p, ⟨a, vs, e, q, z, r⟩ => by rw [e]; exact .tup (SqT.mono s q) (Reps.dp s ts vs p r)
  | .lst ts, _, p, ⟨a, vs, e, q, z, r⟩ => by rw [e]; exact .lst (SqL.of (s _ _ q)) (Reps.dp s ts vs p r)
  | .dct _ _, _, p, _ => by cases p
  | .scr _, _, p, _ => by cases p
  | .oth _, _, p, _ => by cases p
theorem Reps.dp (s : Same F H) : ∀ (ts : List T) (vs : List V), T.plains ts = true → Reps K F ts vs → DpAll K H vs (T.Ds ts)
  | [], _, _, h => by rw [show _ = [] from h]; exact .nil
  | t :: ts, _, p, ⟨v, r, e, h1, h2⟩ => by
    rw [e]
    have p' : (T.plain t && T.plains ts) = true := p
    have p2 := Bool.and_eq_true_iff.mp p'
    exact .cons (Rep.dp s t v p2.1 h1) (Reps.dp s ts r p2.2 h2)
end
theorem RdT.dp {t : T} {v : V} (s : Same F H) (p : t.plain = true) (h : RdT K F H v t) : Dp K H v t.D := by
  rcases h with h | ⟨a, e, n, o⟩
  · exact Rep.dp s t v p h
  · cases t with
    | lst ts =>
      obtain ⟨vs, hl, z, r⟩ := o
      subst e
      exact .lst (SqL.of hl) (Reps.dp s ts vs p r)
    | dct _ _ => cases p
    | bdt _ _ => cases p
    | obj _ _ => cases p
    | lat _ _ => cases p
    | _ => exact o.elim
end
def eqOk (t : T) : Bool := t.plain && SeqAt.shaped t.D
def T.eqv (a b : T) : Bool := PyData.eqv a.D b.D
def eqT : G2 := fun a b k => (eqOk a && eqOk b) = true ∧ k false (.bl (T.eqv a b))
def neT : G2 := fun a b k => (eqOk a && eqOk b) = true ∧ k false (.bl (!T.eqv a b))
section
variable {X : Cx}
theorem o_eq (hu : X.A.units + 64 < cLine) : OpT X (compareOp .Eq) eqT := by
  refine ⟨_, op_eqD hu, fun F H x y tx ty G Q s rx ry ⟨ok, hg⟩ k => ?_⟩
  obtain ⟨h1, h2⟩ := Bool.and_eq_true_iff.mp ok
  obtain ⟨a1, a2⟩ := Bool.and_eq_true_iff.mp h1
  obtain ⟨b1, b2⟩ := Bool.and_eq_true_iff.mp h2
  exact ⟨_, _, rx.dp s a1, ry.dp s b1, a2, b2, k false _ _ F H hg (Grow.refl s) rfl⟩
theorem o_ne (hu : X.A.units + 64 < cLine) : OpT X (compareOp .NotEq) neT := by
  refine ⟨_, op_neD hu, fun F H x y tx ty G Q s rx ry ⟨ok, hg⟩ k => ?_⟩
  obtain ⟨h1, h2⟩ := Bool.and_eq_true_iff.mp ok
  obtain ⟨a1, a2⟩ := Bool.and_eq_true_iff.mp h1
  obtain ⟨b1, b2⟩ := Bool.and_eq_true_iff.mp h2
  exact ⟨_, _, rx.dp s a1, ry.dp s b1, a2, b2, k false _ _ F H hg (Grow.refl s) rfl⟩
end

def isT (neg : Bool) : G2 := fun a b k => match a, b with
  | .bl i, .bl j => k false (.bl (neg != decide (i = j)))
  | .non, .non => k false (.bl (!neg))
  | .int _, .non => k false (.bl neg)
  | .bl _, .non => k false (.bl neg)
  | .str _, .non => k false (.bl neg)
  | .tup _, .non => k false (.bl neg)
  | .lst _, .non => k false (.bl neg)
  | _, _ => False
section
variable {X : Cx}
end

def kMem (k : Key) (ks : List Key) : Bool := ks.any fun k' => decide (k' = k)
theorem kMem_iff {k : Key} {ks : List Key} : kMem k ks = true ↔ k ∈ ks := by
  unfold kMem
  rw [List.any_eq_true]
  constructor
  · rintro ⟨x, h, e⟩
    rw [← of_decide_eq_true e]
    exact h
  · exact fun h => ⟨k, h, decide_eq_true rfl⟩
def keyT : T → Option Key
  | .int i => some (.inl i)
  | .str x => some (.inr x)
  | _ => none
def inT (neg : Bool) : G2 := fun a b k => match b with
  | .lst ts => (eqOk a && eqOk b) = true ∧ k false (.bl (neg != ts.any fun t => T.eqv t a))
  | .tup ts => (eqOk a && eqOk b) = true ∧ k false (.bl (neg != ts.any fun t => T.eqv t a))
  | .dct ks _ => match keyT a with
    | some key => k false (.bl (neg != kMem key ks))
    | none => False
  | .str z => match a with
    | .str ⟨c⟩ => match c.toList with
      | [n] => k false (.bl (neg != decide (n ∈ z.cps.toList)))
      | _ => False
    | _ => False
  | _ => False
theorem any_D (a : T) : ∀ ts : List T, (T.Ds ts).any (fun z => PyData.eqv z a.D) = ts.any fun t => T.eqv t a
  | [] => rfl
  | t :: ts => by
    show (PyData.eqv t.D a.D || (T.Ds ts).any _) = (T.eqv t a || ts.any _)
    rw [any_D a ts]
    rfl
section
variable {X : Cx}
def rInT (K : PySem.W.Frag) (neg : Bool) : R2 := fun x y H Q => ∃ d ds, Dp K H x d ∧ Dp K H y (.tuple ds) ∧ SeqAt.shaped d = true ∧ SeqAt.shaped (.tuple ds) = true ∧ Q (.bl (neg != ds.any fun z => PyData.eqv z d)) H
theorem op_inT (hu : X.A.units + 65 < cLine) : OpR X (compareOp .In) (rInT X.K false) := by
  intro pins s σ H x y v u Q I rx ry h
  obtain ⟨d, ds, hd, he, sd, se, q⟩ := h
  obtain ⟨as, r1⟩ := Dp.reads I d x v hd rx
  obtain ⟨bs, r2⟩ := Dp.reads I (.tuple ds) y u he ry
  rw [Bool.false_bne] at q
  exact SeqAt.in_tuple_reads r2 r1 (SeqAt.canLay_of_shaped se) (SeqAt.canLay_of_shaped sd) (PyProof.Rows.room_in_shaped sd hu) ⟨.bl _, H, I, rfl, q⟩
theorem op_notInT (hu : X.A.units + 65 < cLine) : OpR X (compareOp .NotIn) (rInT X.K true) := by
  intro pins s σ H x y v u Q I rx ry h
  obtain ⟨d, ds, hd, he, sd, se, q⟩ := h
  obtain ⟨as, r1⟩ := Dp.reads I d x v hd rx
  obtain ⟨bs, r2⟩ := Dp.reads I (.tuple ds) y u he ry
  rw [Bool.true_bne] at q
  exact SeqAt.notIn_tuple_reads r2 r1 (SeqAt.canLay_of_shaped se) (SeqAt.canLay_of_shaped sd) (PyProof.Rows.room_in_shaped sd hu) ⟨.bl _, H, I, rfl, q⟩
def rInDk (neg : Bool) : R2 := fun x y H Q => ∃ a kvs k, y = .ref a ∧ Rd H a (.dK kvs) ∧ x = kV k ∧ Q (.bl (neg != (valV kvs k).isSome)) H
theorem op_inDk (hu : X.A.units + 1 < cLine) : OpR X (compareOp .In) (rInDk false) := by
  intro pins s σ H x y v u Q I rx ry h
  obtain ⟨a, kvs, k, rfl, hr, rfl, q⟩ := h
  obtain rfl : u = Value.ref a := ry
  rw [Bool.false_bne] at q
  exact d_in hu I (.inl ⟨kvs, k, hr, rfl, rfl⟩) rx fun s3 I3 => ⟨.bl _, H, I3, rfl, q⟩
theorem op_notInDk (hu : X.A.units + 1 < cLine) : OpR X (compareOp .NotIn) (rInDk true) := by
  intro pins s σ H x y v u Q I rx ry h
  obtain ⟨a, kvs, k, rfl, hr, rfl, q⟩ := h
  obtain rfl : u = Value.ref a := ry
  rw [Bool.true_bne] at q
  exact d_notIn hu I (.inl ⟨kvs, k, hr, rfl, rfl⟩) rx fun s3 I3 => ⟨.bl _, H, I3, rfl, q⟩
theorem valV_mem {kvs : List (Key × V)} {k : Key} : (valV kvs k).isSome = kMem k (kvs.map (·.1)) := by
  rw [← valV_any, kMem, List.any_map]
  rfl
theorem keyT_rep {K : PySem.W.Frag} {F H : Hp} {v : V} {t : T} {k : Key} (h : RdT K F H v t) (e : keyT t = some k) : v = kV k := by
  cases t with
  | int i => cases e; exact h.int
  | str i => cases e; exact h.str
  | _ => cases e
theorem in_gen {f : Value → Value → Sem Value} (neg : Bool) {rL rS : R2} (hL : OpR X f rL) (iL : ∀ x y H Q d ds, Dp X.K H x d → Dp X.K H y (.list ds) → SeqAt.shaped d = true → SeqAt.shaped (.list ds) = true → Q (.bl (neg != ds.any fun z => PyData.eqv z d)) H → rL x y H Q) (hT : OpR X f (rInT X.K neg)) (hD : OpR X f (rInDk neg))
    (hS : OpR X f rS) (iS : ∀ (c : Nat) (z : Str) H (Q : VK), Q (.bl (neg != decide (c ∈ z.cps.toList))) H → rS (.str ⟨#[c]⟩) (.str z) H Q) : OpT X f (inT neg) := by
  refine ⟨_, hL.or (hT.or (hD.or hS)), fun F H x y tx ty G Q s rx ry hg k => ?_⟩
  unfold inT at hg
  split at hg
  · obtain ⟨ok, hg⟩ := hg
    obtain ⟨h1, h2⟩ := Bool.and_eq_true_iff.mp ok
    obtain ⟨a1, a2⟩ := Bool.and_eq_true_iff.mp h1
    obtain ⟨b1, b2⟩ := Bool.and_eq_true_iff.mp h2
    refine .inl (iL x y H Q _ _ (rx.dp s a1) (ry.dp s b1) a2 b2 ?_)
    rw [any_D]
    exact k false _ _ F H hg (Grow.refl s) rfl
  · obtain ⟨ok, hg⟩ := hg
    obtain ⟨h1, h2⟩ := Bool.and_eq_true_iff.mp ok
    obtain ⟨a1, a2⟩ := Bool.and_eq_true_iff.mp h1
    obtain ⟨b1, b2⟩ := Bool.and_eq_true_iff.mp h2
    refine .inr (.inl ⟨_, _, rx.dp s a1, ry.dp s b1, a2, b2, ?_⟩)
    rw [any_D]
    exact k false _ _ F H hg (Grow.refl s) rfl
  · split at hg
    · rename_i key ek
      obtain ⟨a, kvs, rfl, hr, z, hk, r⟩ := ry.dct s
      refine .inr (.inr (.inl ⟨a, kvs, key, rfl, hr, keyT_rep rx ek, ?_⟩))
      rw [valV_mem, hk]
      exact k false _ _ F H hg (Grow.refl s) rfl
    · exact hg.elim
  · split at hg
    · rename_i z _ c
      split at hg
      · rename_i n en
        have ec : c = #[n] := Array.ext' en
        subst ec
        rw [rx.str, ry.str]
        exact .inr (.inr (.inr (iS n z H Q (k false _ _ F H hg (Grow.refl s) rfl))))
      · exact hg.elim
    · exact hg.elim
  · exact hg.elim
theorem o_in (hu : X.A.units + 65 < cLine) : OpT X (compareOp .In) (inT false) :=
  in_gen false (op_inD hu) (fun x y H Q d ds h1 h2 h3 h4 q => ⟨d, ds, h1, h2, h3, h4, by rw [Bool.false_bne] at q; exact q⟩) (op_inT hu) (op_inDk (by omega)) op_in_sign (fun c z H Q q => ⟨c, z, rfl, rfl, by rw [Bool.false_bne] at q; exact q⟩)
theorem o_notin (hu : X.A.units + 65 < cLine) : OpT X (compareOp .NotIn) (inT true) :=
  in_gen true (op_notInD hu) (fun x y H Q d ds h1 h2 h3 h4 q => ⟨d, ds, h1, h2, h3, h4, by rw [Bool.true_bne] at q; exact q⟩) (op_notInT hu) (op_notInDk (by omega)) op_notIn_sign (fun c z H Q q => ⟨c, z, rfl, rfl, by rw [Bool.true_bne] at q; exact q⟩)
end
end TL

namespace TL
open PySem L2

def dGetT (ks : List Key) (ts : List T) (k : Key) : Option T := ((ks.zip ts).find? fun kv => decide (kv.1 = k)).map (·.2)
def dPutK (ks : List Key) (k : Key) : List Key := if kMem k ks = true then ks else ks ++ [k]
def dPutV (ks : List Key) (ts : List T) (k : Key) (v : T) : List T := if kMem k ks = true then List.zipWith (fun k' t => if k' = k then v else t) ks ts else ts ++ [v]
def ixT : T → T → (T → Prop) → Prop := fun a b k => match a, b with
  | .lst ts, .int i => ∃ t, atI ts i = some t ∧ k t
  | .tup ts, .int i => ∃ t, atI ts i = some t ∧ k t
  | .scr ns, .int i => ∃ n, atI ns i = some n ∧ k (.int n)
  | .str z, .int i => z.length ≤ sizeLine ∧ ∃ c, atI z.cps.toList i = some c ∧ k (.str ⟨#[c]⟩)
  | .dct ks ts, b => ∃ key t, keyT b = some key ∧ dGetT ks ts key = some t ∧ k t
  | _, _ => False
section
variable {K : PySem.W.Frag} {F H : Hp}
theorem Reps.at {ts : List T} {vs : List V} {i : Int} {t : T} (h : Reps K F ts vs) (e : atI ts i = some t) : ∃ v, atI vs i = some v ∧ Rep K F t v := by
  unfold atI at e ⊢
  rw [← h.len]
  cases q : ixN ts.length i with
  | none => rw [q] at e; cases e
  | some j =>
    rw [q] at e
    exact h.get (i := j) e
theorem atI_map {α β : Type} (f : α → β) (xs : List α) (i : Int) : atI (xs.map f) i = (atI xs i).map f := by
  unfold atI
  rw [List.length_map]
  cases ixN xs.length i with
  | none => rfl
  | some j => exact List.getElem?_map ..
theorem dGet_rep : ∀ {kvs : List (Key × V)} {ks : List Key} {ts : List T} {k : Key} {t : T}, kvs.map (·.1) = ks → Reps K F ts (kvs.map (·.2)) → dGetT ks ts k = some t → ∃ v, valV kvs k = some v ∧ Rep K F t v
  | [], _, _, _, _, rfl, h, e => by cases e
  | (k', v) :: r, _, [], _, _, rfl, h, e => by cases h
  | (k', v) :: r, _, t' :: ts, k, t, rfl, ⟨v', r', ev, h1, h2⟩, e => by
    cases ev
    by_cases hk : k' = k
    · have et : t' = t := by
        have : dGetT (k' :: r.map (·.1)) (t' :: ts) k = some t' := by simp [dGetT, hk]
        rw [List.map_cons] at e
        rw [this] at e
        exact Option.some.inj e
      subst et
      exact ⟨v, valV_pos (p := (k', v)) hk, h1⟩
    · have e2 : dGetT (r.map (·.1)) ts k = some t := by
        rw [List.map_cons] at e
        simpa [dGetT, List.zip_cons_cons, List.find?_cons, hk] using e
      obtain ⟨w, h3, h4⟩ := dGet_rep rfl h2 e2
      exact ⟨w, by rw [valV_neg (p := (k', v)) hk]; exact h3, h4⟩
theorem putK_ks (kvs : List (Key × V)) (k : Key) (v : V) : (putK kvs k v).map (·.1) = dPutK (kvs.map (·.1)) k := by
  unfold putK dPutK
  have e : (kvs.any fun kv => decide (kv.1 = k)) = kMem k (kvs.map (·.1)) := by rw [kMem, List.any_map]; rfl
  rw [e]
  by_cases h : kMem k (kvs.map (·.1)) = true
  · rw [if_pos h, if_pos h, List.map_map]
    apply List.map_congr_left
    intro a _
    simp only [Function.comp]
    split <;> rfl
  · rw [if_neg h, if_neg h, List.map_append]
    rfl
theorem putK_vs (k : Key) {t : T} {v : V} (ht : Rep K F t v) : ∀ {kvs : List (Key × V)} {ts : List T}, Reps K F ts (kvs.map (·.2)) → Reps K F (dPutV (kvs.map (·.1)) ts k t) ((putK kvs k v).map (·.2)) := by
  intro kvs ts h
  unfold putK dPutV
  have e : (kvs.any fun kv => decide (kv.1 = k)) = kMem k (kvs.map (·.1)) := by rw [kMem, List.any_map]; rfl
  rw [e]
  by_cases hm : kMem k (kvs.map (·.1)) = true
  · rw [if_pos hm, if_pos hm]
    clear hm e
    induction kvs generalizing ts with
    | nil => cases ts <;> first | exact rfl | (cases h)
    | cons p r ih =>
      cases ts with
      | nil => cases h
      | cons t' ts =>
        obtain ⟨v', r', ev, h1, h2⟩ := h
        cases ev
        simp only [List.map_cons, List.zipWith_cons_cons]
        refine ⟨_, _, rfl, ?_, ih h2⟩
        split
        · exact ht
        · exact h1
  · rw [if_neg hm, if_neg hm, List.map_append]
    exact Reps.append h ⟨v, [], rfl, ht, rfl⟩
end
section
variable {X : Cx} {B : Bs} {a b : Expr} {ta tb : TTE} {pos : Pos}
def rIxD : R2 := fun x y H Q => ∃ p kvs k v, x = .ref p ∧ Rd H p (.dK kvs) ∧ y = kV k ∧ valV kvs k = some v ∧ Q v H
theorem ix_dict (hu : X.A.units + 1 < cLine) : IxR X rIxD := by
  intro value slice pins s σ H x y v u Q I rx ry h hs
  obtain ⟨p, kvs, k, w, rfl, hr, rfl, hv, q⟩ := h
  cases rx
  have g : DGet H p (kV k) (some w) := .inl ⟨kvs, k, hr, rfl, hv.symm⟩
  exact PyProof.Rows.tail_any (dict_typeIs I g) PySem.F.slot_dict_getitem.lookup (d_getItem hu I g ry fun w' s3 I3 rw' => ⟨w, H, I3, rw', q⟩) hs
def ttIx (ta tb : TTE) : TTE := fun τ P => ta τ fun ra τ1 => tb τ1 fun rb τ2 => ixT (ra.t τ2) (rb.t τ2) fun t => P (.val false t) τ2
theorem tpe_ix (hu : X.A.units + 64 < cLine) (ha : TPE X B a ta) (hb : TPE X B b tb) (hs : PlainIx b) : TPE X B (.Subscript a b pos) (ttIx ta tb) := by
  refine ⟨PE.imp (pe_ix (ix_seq.or (ix_dict (by omega))) ha.pe hb.pe hs) fun σ H Q h => ?_⟩
  obtain ⟨F, τ, P, I, ht, hq⟩ := h
  refine lift.go I ht fun ra τ1 F1 H1 x h1 I1 s1 r1 f1 => ?_
  refine lift.go I1 h1 fun rb τ2 F2 H2 y h2 I2 s2 r2 f2 => ?_
  have rx := (r1.step s2).rd I2.wf
  have ry := r2.rd I2.wf
  have fin : ∀ t v, Rep X.K F2 t v → P (.val false t) τ2 → Q v H2 := fun t v r p => hq _ _ _ _ _ p I2 (s1.trans s2) r trivial
  generalize ra.t τ2 = tx at h2 rx
  generalize rb.t τ2 = ty at h2 ry
  have dcase : ∀ ks ts, tx = .dct ks ts → (∃ key t, keyT ty = some key ∧ dGetT ks ts key = some t ∧ P (.val false t) τ2) → rIxD x y H2 Q := fun ks ts e ⟨key, t, ek, eg, p⟩ => by
    subst e
    obtain ⟨a, kvs, rfl, hr, z, hk, r⟩ := rx.dct I2.wf.sub
    obtain ⟨v, hv, rp⟩ := dGet_rep hk r eg
    exact ⟨a, kvs, key, v, rfl, hr, keyT_rep ry ek, hv, fin t v rp p⟩
  cases tx with
  | lst ts =>
    cases ty with
    | int i =>
      obtain ⟨t, e, p⟩ := h2
      obtain ⟨a, vs, rfl, hl, z, r⟩ := rx.lst I2.wf.sub
      obtain ⟨v, ev, rp⟩ := r.at e
      exact .inl (.inl ⟨a, vs, i, v, rfl, ry.int, SqL.of hl, ev, fin t v rp p⟩)
    | _ => exact h2.elim
  | tup ts =>
    cases ty with
    | int i =>
      obtain ⟨t, e, p⟩ := h2
      obtain ⟨a, vs, rfl, hl, z, r⟩ := rx.tup
      obtain ⟨v, ev, rp⟩ := r.at e
      exact .inl (.inr (.inl ⟨a, vs, i, v, rfl, ry.int, SqT.mono I2.wf.sub hl, ev, fin t v rp p⟩))
    | _ => exact h2.elim
  | scr ns =>
    cases ty with
    | int i =>
      obtain ⟨n, e, p⟩ := h2
      obtain ⟨a, rfl, hl, z⟩ := rx.scr
      exact .inl (.inl ⟨a, _, i, .int n, rfl, ry.int, I2.wf.sub.seq hl, by rw [atI_map, e]; rfl, fin (.int n) (.int n) rfl p⟩)
    | _ => exact h2.elim
  | str z =>
    cases ty with
    | int i =>
      obtain ⟨hl, c, e, p⟩ := h2
      exact .inl (.inr (.inr ⟨z, i, c, rx.str, ry.int, hl, e, fin (.str ⟨#[c]⟩) _ rfl p⟩))
    | _ => exact h2.elim
  | dct ks ts => exact .inr (dcase ks ts rfl h2)
  | _ => exact h2.elim

def cutT (xs : List T) (lo hi : Option Int) : List T := (xs.drop (HT.sIx xs.length 0 lo)).take (HT.sIx xs.length xs.length hi - HT.sIx xs.length 0 lo)
def slT' (t : T) (lo hi : Option Int) (k : Bool → T → Prop) : Prop := match t with
  | .lst ts => k true (.lst (cutT ts lo hi))
  | .tup ts => k false (.tup (cutT ts lo hi))
  | .scr ns => k true (.lst (cutT (ns.map T.int) lo hi))
  | .str z => z.length ≤ sizeLine ∧ k false (.str (cutS z lo hi))
  | _ => False
abbrev TTO := TSt → (Option Int → TSt → Prop) → Prop
def liftO (K : PySem.W.Frag) (B : Bs) (t : TTO) : TO := fun σ H Q => ∃ F τ P, Inn K B F H σ τ ∧ t τ P ∧ ∀ o τ' F' H', P o τ' → Inn K B F' H' σ τ' → Stp F H σ τ F' H' τ' → Q o H'
structure TPO (X : Cx) (B : Bs) (o : Option Expr) (t : TTO) : Prop where
  po : PO X o (liftO X.K B t)
def toN : TTO := fun τ P => P none τ
def toS (te : TTE) : TTO := fun τ P => te τ fun r τ1 => match r.t τ1 with
  | .int i => P (some i) τ1
  | _ => False
theorem tpo_n : TPO X B none toN := ⟨⟨fun pins s σ H Q I h => by
  obtain ⟨F, τ, P, I', h, q⟩ := h
  exact po_none.run pins s σ H Q I (q none τ F H h I' Stp.refl)⟩⟩
theorem tpo_s {e : Expr} {te : TTE} (h : TPE X B e te) : TPO X B (some e) (toS te) := ⟨⟨fun pins s σ H Q I q => (po_some h.pe).run pins s σ H Q I (by
  obtain ⟨F, τ, P, I', ht, hq⟩ := q
  refine lift.go I' ht fun r τ1 F1 H1 v h1 I1 s1 r1 f1 => ?_
  have rd := r1.rd I1.wf
  generalize r.t τ1 = t at h1 rd
  cases t with
  | int i => exact ⟨i, rd.int, hq (some i) τ1 F1 H1 h1 I1 s1⟩
  | _ => exact h1.elim)⟩⟩
theorem cutT_rep {K : PySem.W.Frag} {F : Hp} {ts : List T} {vs : List V} (h : Reps K F ts vs) (lo hi : Option Int) : Reps K F (cutT ts lo hi) (cutV vs lo hi) := by
  unfold cutT cutV
  rw [h.len]
  exact Reps.take _ (Reps.drop _ h)
def ttSl (te : TTE) (tl th : TTO) : TTE := fun τ P => te τ fun r τ1 => tl τ1 fun lo τ2 => th τ2 fun hi τ3 => slT' (r.t τ3) lo hi fun k t => P (.val k t) τ3
theorem tpe_sl {lo hi : Option Expr} {te : TTE} {tl th : TTO} {e : Expr} {p2 : Pos} (he : TPE X B e te) (hl : TPO X B lo tl) (hu : TPO X B hi th) : TPE X B (.Subscript e (.Slice lo hi none p2) pos) (ttSl te tl th) := by
  refine ⟨PE.imp (pe_slice ((sl_list (X := X)).or (sl_tupA.or sl_str)) he.pe hl.po hu.po) fun σ H Q h => ?_⟩
  obtain ⟨F, τ, P, I, ht, hq⟩ := h
  refine lift.go I ht fun r τ1 F1 H1 x h1 I1 s1 r1 f1 => ?_
  refine ⟨F1, τ1, _, I1, h1, fun lo' τ2 F2 H2 h2 I2 s2 => ?_⟩
  refine ⟨F2, τ2, _, I2, h2, fun hi' τ3 F3 H3 h3 I3 s3 => ?_⟩
  have rx := (r1.step (s2.trans s3)).rd I3.wf
  have st := (s1.trans s2).trans s3
  have fin : ∀ k t v F' H', P (.val k t) τ3 → Grow F3 H3 F' H' → RG X.K H3 F' H' v k t → Q v H' := fun k t v F' H' p g rg => by
    obtain ⟨rr, fr⟩ := RG.rr I3.wf g rg
    exact hq _ _ _ _ _ p (I3.step (g.wf I3.wf) g.step) (st.trans g.step) rr (Fresh.step st fr)
  have sub := I3.wf.sub
  generalize r.t τ3 = tx at h3 rx
  cases tx with
  | lst ts =>
    obtain ⟨a, vs, rfl, hl, z, rp⟩ := rx.lst sub
    exact .inl ⟨a, vs, rfl, SqL.of hl, fun p np => fin true _ _ _ _ h3 (Grow.own sub np) ⟨p, rfl, np, sub.free np, _, upd_same, Nat.le_trans (cutV_length ..) z, cutT_rep rp _ _⟩⟩
  | scr ns =>
    obtain ⟨a, rfl, hl, z⟩ := rx.scr
    have rp : Reps X.K F3 (ns.map T.int) (ns.map V.int) := Reps.ints.mpr rfl
    exact .inl ⟨a, _, rfl, sub.seq hl, fun p np => fin true _ _ _ _ h3 (Grow.own sub np) ⟨p, rfl, np, sub.free np, _, upd_same, Nat.le_trans (cutV_length ..) (by rw [List.length_map]; exact z), cutT_rep rp _ _⟩⟩
  | tup ts =>
    obtain ⟨a, vs, rfl, hl, z, rp⟩ := rx.tup
    have e1 : ∀ (xs : List V), HT.sIx xs.length 0 lo' = 0 ∧ HT.sIx xs.length xs.length hi' = xs.length → cutV xs lo' hi' = xs := fun xs ⟨e1, e2⟩ => by
      unfold cutV
      rw [e1, e2, List.drop_zero, Nat.sub_zero, List.take_length]
    refine .inr (.inl ⟨a, vs, rfl, SqT.mono sub hl, fun e => ?_, fun _ p np => ?_⟩)
    · refine fin false _ _ _ _ h3 (Grow.refl sub) ⟨a, vs, rfl, hl, z, ?_⟩
      have := cutT_rep rp lo' hi'
      rw [e1 vs e] at this
      exact this
    · exact fin false _ _ _ _ h3 (Grow.frz sub np) ⟨p, _, rfl, .inl (.inl upd_same), Nat.le_trans (cutV_length ..) z, Reps.mono (same_upd (sub.free np)) _ _ (cutT_rep rp _ _)⟩
  | str z =>
    exact .inr (.inr ⟨z, rx.str, h3.1, fin false _ _ _ _ h3.2 (Grow.refl sub) rfl⟩)
  | _ => exact h3.elim
end

section
variable {K : PySem.W.Frag} {B : Bs} {F H : Hp} {σ : St} {τ : TSt}
theorem mut_ok {i : Nat} {k : Kd} {t t' : T} {a : Addr} {o : HO} (I : Inn K B F H σ τ) (hs : τ[i]? = some (some ⟨k, false, t⟩)) (hk : k ≠ .frz) (hv : σ[i]? = some (some (.ref a))) (new : OwnAt K F (upd H a o) a t') :
    Inn K B F (upd H a o) σ (τ.set i (some ⟨k, false, t'⟩)) ∧ Stp F H σ τ F (upd H a o) (τ.set i (some ⟨k, false, t'⟩)) := by
  have oi : Owns σ τ i k a := ⟨false, t, hs, hk, hv⟩
  have nF : F a = none := by
    obtain ⟨a', e, n, _⟩ := I.wf.own i k false t hs hk
    rw [hv] at e
    cases e
    exact n
  have hl : i < τ.length := (List.getElem?_eq_some_iff.mp hs).1
  have own' : ∀ (j : Nat) (m : Kd) (b : Addr), Owns σ (τ.set i (some ⟨k, false, t'⟩)) j m b → Owns σ τ j m b := fun j m b ⟨l, u, h1, h2, h3⟩ => by
    rcases set_get h1 with ⟨hj, z, _⟩ | ⟨_, z⟩
    · cases z; subst hj; exact ⟨false, t, hs, h2, h3⟩
    · exact ⟨l, u, z, h2, h3⟩
  have w : WF K F (upd H a o) σ (τ.set i (some ⟨k, false, t'⟩)) := by
    refine ⟨fun b u e => ?_, by rw [List.length_set]; exact I.wf.len, fun j l u h => ?_, fun j m l u h hm => ?_, fun i j k l a h1 h2 => I.wf.sep i j k l a (own' _ _ _ h1) (own' _ _ _ h2)⟩
    · have hb : b ≠ a := fun z => by subst z; rw [nF] at e; cases e
      rw [upd_ne hb]
      exact I.wf.sub b u e
    · rcases set_get h with ⟨_, z, _⟩ | ⟨_, z⟩
      · cases z; exact absurd rfl hk
      · exact I.wf.frz j l u z
    · rcases set_get h with ⟨hj, z, _⟩ | ⟨hj, z⟩
      · cases z; subst hj
        exact ⟨a, hv, nF, new⟩
      · obtain ⟨b, e, n, q⟩ := I.wf.own j m l u z hm
        have hb : b ≠ a := fun y => by
          subst y
          exact hj (I.wf.sep j i m k b ⟨l, u, z, hm, e⟩ oi)
        exact ⟨b, e, n, q.mono (fun _ _ h => h) (upd_ne hb)⟩
  have s : Stp F H σ τ F (upd H a o) (τ.set i (some ⟨k, false, t'⟩)) := by
    refine ⟨fun _ _ h => h, fun _ h => .inl h, fun b u e n => ?_, fun b h => ?_, own', fun j s h => ?_, fun j m u h => ?_⟩
    · have hb : b ≠ a := fun z => by subst z; exact n i k oi
      rw [upd_ne hb]
      exact e
    · by_cases hb : b = a
      · subst hb; rw [upd_same]; simp
      · rw [upd_ne hb]; exact h
    · by_cases hj : j = i
      · subst hj; exact ⟨_, List.getElem?_set_self hl⟩
      · exact ⟨s, by rw [List.getElem?_set_ne (Ne.symm hj)]; exact h⟩
    · have hj : j ≠ i := fun z => by subst z; rw [hs] at h; cases h
      rw [List.getElem?_set_ne (Ne.symm hj)]
      exact h
  exact ⟨I.step w s, s⟩
end
/-- what a changing method does: the object, the arguments, then the new object and the answer -/
abbrev MG := T → List T → (T → T → Prop) → Prop
def mutS (τ : TSt) (i : Nat) (ts : List T) (g : MG) (P : R → TSt → Prop) : Prop := match τ[i]? with
  | some (some ⟨.own, false, t⟩) => g t ts fun t' u => P (.val false u) (τ.set i (some ⟨.own, false, t'⟩))
  | some (some ⟨.arg j, false, t⟩) => g t ts fun t' u => P (.val false u) (τ.set i (some ⟨.arg j, false, t'⟩))
  | _ => False
theorem mutS.inv {τ : TSt} {i : Nat} {ts : List T} {g : MG} {P : R → TSt → Prop} (h : mutS τ i ts g P) : ∃ k t, τ[i]? = some (some ⟨k, false, t⟩) ∧ k ≠ .frz ∧ g t ts fun t' u => P (.val false u) (τ.set i (some ⟨k, false, t'⟩)) := by
  unfold mutS at h
  split at h
  · rename_i t e
    exact ⟨.own, t, e, by simp, h⟩
  · rename_i j t e
    exact ⟨.arg j, t, e, by simp, h⟩
  · exact h.elim
/-- a method of a name's own object; the object's type is asked ahead of the arguments -/
def ttMut (isL : Bool) (i : Nat) (tl : TTL) (g : MG) : TTE := fun τ P => (match slT τ i with
  | .lst _ => isL = true
  | .dct _ _ => isL = false
  | _ => False) ∧ (∃ s, τ[i]? = some (some s)) ∧ tl τ fun ts τ1 => mutS τ1 i ts g P
/-- the rule of a list's method -/
def MutR (X : Cx) (id : String) (g : MG) : Prop := ∃ r : V → List V → Hp → VK → Prop, MtR X id r ∧ ∀ (F H : Hp) (a : Addr) (vs : List V) (t : T) (ts : List T) (G : T → T → Prop) (Q : VK), Same F H → OwnAt X.K F H a t → Reps X.K F ts vs → g t ts G →
  (∀ t' u o v, G t' u → OwnAt X.K F (upd H a o) a t' → Rep X.K F u v → Q v (upd H a o)) → r (.ref a) vs H Q
section
variable {X : Cx} {B : Bs} {es : List Expr} {e : Expr} {tl : TTL} {i : Nat} {g : MG} {name : Str} {apos cpos : Pos} {id : String} {x : Str} {pos : Pos}
theorem mut_fin {F H : Hp} {σ : St} {τ : TSt} {P : R → TSt → Prop} {Q : VK} {r : V → List V → Hp → VK → Prop} {vs : List V} {v : V} {ts : List T} {F0 H0 : Hp} {τ0 : TSt}
    (hg : ∀ (F H : Hp) (a : Addr) (vs : List V) (t : T) (ts : List T) (G : T → T → Prop) (Q : VK), Same F H → OwnAt X.K F H a t → Reps X.K F ts vs → g t ts G → (∀ t' u o v, G t' u → OwnAt X.K F (upd H a o) a t' → Rep X.K F u v → Q v (upd H a o)) → r (.ref a) vs H Q)
    (I : Inn X.K B F H σ τ) (hv : σ[i]? = some (some v)) (rs : Reps X.K F ts vs) (h : mutS τ i ts g P) (s : Stp F0 H0 σ τ0 F H τ)
    (hq : ∀ r τ' F' H' v, P r τ' → Inn X.K B F' H' σ τ' → Stp F0 H0 σ τ0 F' H' τ' → RR X.K F' H' σ τ' v r → Fresh H0 v r → Q v H') : r v vs H Q := by
  obtain ⟨k, t, hs, hk, h⟩ := h.inv
  obtain ⟨a, ea, n, o⟩ := I.wf.own i k false t hs hk
  rw [hv] at ea
  cases ea
  refine hg F H a vs t ts _ Q I.wf.sub o rs h fun t' u ob w p new rep => ?_
  obtain ⟨I2, s2⟩ := mut_ok I hs hk hv new
  exact hq _ _ _ _ _ p I2 (s.trans s2) rep trivial
theorem tpe_mutL (hm : MutR X id g) (slot : Slot "list" name id) (hty : typeOf (.builtin id) = pure (.type "method_descriptor")) (hN : X.N[i]? = some x) (hv : Vis X.env.scope x) (ha : TPL X B (e :: es) tl)
    (hd : (x == ("__debug__" : Str)) = false := by decide) (hcd : (x == ("__classdict__" : Str)) = false := by decide)
    (hbase : attributeBase (.Name x pos) name X.env (eval (.Name x pos) X.env) = eval (.Name x pos) X.env := by rfl)
    (hfew : ((backTo cpos (starEach (e :: es) X.env)).all (fun x => !x.1) && (backToKw cpos (keywordEach [] X.env)).all (fun x => x.1.isSome)
      && decide ((e :: es).length + ([] : List Keyword).length + (if ([] : List Keyword).isEmpty then 0 else 1) < 30)) = true := by rfl)
    (hline : (apos.endLine == cpos.line) = true := by rfl) (hs : starEach (e :: es) X.env = (false, eval e X.env) :: starEach es X.env := by rfl) (hplain : (backTo cpos (starEach es X.env)).any (·.1) = false := by rfl) :
    TPE X B (.Call (.Attribute (.Name x pos) name apos) (e :: es) [] cpos) (ttMut true i tl g) := by
  obtain ⟨r, hr, hg⟩ := hm
  refine ⟨PE.imp (pe_bm PySem.F.plainAttrs_list slot hty hr (tpe_v (B := B) i hN hv hd hcd).pe ha.pa hbase hfew hline hs hplain) fun σ H Q h => ?_⟩
  obtain ⟨F, τ, P, I, ⟨hty', ⟨s, hs⟩, ht⟩, hq⟩ := h
  refine lift.go I (P := fun r τ1 => r = .var i ∧ τ1 = τ) ⟨⟨s, hs⟩, rfl, rfl⟩ fun r τ1 F1 H1 v ⟨er, et⟩ I1 s1 r1 f1 => ?_
  subst er et
  have rd := r1.rd I1.wf
  have es : R.t τ1 (.var i) = slT τ1 i := rfl
  rw [es] at rd
  refine ⟨?_, F1, τ1, _, I1, ht, fun ts τ2 F2 H2 vs h2 I2 s2 r2 => ?_⟩
  · cases e : slT τ1 i with
    | lst ts =>
      rw [e] at rd
      obtain ⟨a, vs, rfl, hl, _⟩ := rd.lst I1.wf.sub
      exact .inl ⟨rfl, vs, SqL.of hl⟩
    | dct ks ts => rw [e] at hty'; cases hty'
    | _ => rw [e] at hty'; exact hty'.elim
  · exact mut_fin (B := B) hg I2 r1.1 r2 h2 (s1.trans s2) hq
def appendG : MG := fun t ts k => match t, ts with
  | .lst us, [x] => us.length < sizeLine ∧ k (.lst (us ++ [x])) .non
  | _, _ => False
theorem m_append : MutR X "list.append" appendG := by
  refine ⟨rAppend, mt_append, fun F H a vs t ts G Q s o r hg k => ?_⟩
  unfold appendG at hg
  split at hg
  · obtain ⟨us, hl, z, ru⟩ := o
    obtain ⟨v, vr, rfl, h1, h2⟩ := r
    cases h2
    refine ⟨a, us, v, rfl, rfl, hl, by rw [← ru.len]; exact hg.1, k _ _ _ _ hg.2 ⟨_, upd_same, ?_, Reps.append ru ⟨v, [], rfl, h1, rfl⟩⟩ rfl⟩
    have := ru.len
    rw [List.length_append, List.length_singleton]
    omega
  · exact hg.elim
def extendG : MG := fun t ts k => match t, ts with
  | .lst us, [.lst xs] => us.length + xs.length ≤ sizeLine ∧ k (.lst (us ++ xs)) .non
  | _, _ => False
def insertG : MG := fun t ts k => match t, ts with
  | .lst us, [.int i, x] => (us.length < sizeLine ∧ 0 ≤ i ∧ i < 2 ^ 63) ∧ k (.lst (us.take i.toNat ++ [x] ++ us.drop i.toNat)) .non
  | _, _ => False
end
end TL

namespace TL
open PySem L2

def setG (c i v : T) (P : T → Prop) : Prop := match c, i with
  | .lst ts, .int k => ∃ j, ixN ts.length k = some j ∧ P (.lst (ts.set j v))
  | .dct ks ts, i => ∃ key, keyT i = some key ∧ ks.length < sizeLine ∧ P (.dct (dPutK ks key) (dPutV ks ts key v))
  | _, _ => False
def stIx (τ : TSt) (i : Nat) (k v : T) (P : TSt → Prop) : Prop := match τ[i]? with
  | some (some ⟨.own, false, c⟩) => setG c k v fun c' => P (τ.set i (some ⟨.own, false, c'⟩))
  | some (some ⟨.arg j, false, c⟩) => setG c k v fun c' => P (τ.set i (some ⟨.arg j, false, c'⟩))
  | _ => False
theorem stIx.inv {τ : TSt} {i : Nat} {k v : T} {P : TSt → Prop} (h : stIx τ i k v P) : ∃ m c, τ[i]? = some (some ⟨m, false, c⟩) ∧ m ≠ .frz ∧ setG c k v fun c' => P (τ.set i (some ⟨m, false, c'⟩)) := by
  unfold stIx at h
  split at h
  · rename_i t e
    exact ⟨.own, t, e, by simp, h⟩
  · rename_i j t e
    exact ⟨.arg j, t, e, by simp, h⟩
  · exact h.elim
def ttSetIx (i : Nat) (te ti : TTE) : TTS := fun D τ => te τ fun r τ1 => frzR r τ1 fun t τ2 => (∃ s, τ2[i]? = some (some s)) ∧ ti τ2 fun ri τ3 => stIx τ3 i (ri.t τ3) t D.nx
section
variable {X : Cx} {B : Bs}
theorem PSet.or {t u : TSet} (h : PSet X t) (h' : PSet X u) : PSet X (fun o i v H Q => t o i v H Q ∨ u o i v H Q) := fun pins s σ H o i v ov iv w Q I ro ri rv q => q.elim (h pins s σ H o i v ov iv w Q I ro ri rv) (h' pins s σ H o i v ov iv w Q I ro ri rv)
theorem tps_setIx {i : Nat} {x : Str} {e k : Expr} {te ti : TTE} {p0 p1 pos : Pos} (hu : X.A.units + 64 < cLine) (hN : X.N[i]? = some x) (hv : Vis X.env.scope x) (he : TPE X B e te) (hi : TPE X B k ti)
    (hd : (x == ("__debug__" : Str)) = false := by decide) (hcd : (x == ("__classdict__" : Str)) = false := by decide)
    (ha : ∀ v, assign (.Subscript (.Name x p0) k p1) X.env v = (do
      let ov ← holding [v] (eval (.Name x p0) X.env)
      let iv ← holding [v, ov] (eval k X.env)
      standAt p1
      holding [v, ov, iv] (setItem ov iv v)
      release [v, ov, iv] []) := by intro _; rfl)
    (hs : swapsWithSole [.Subscript (.Name x p0) k p1] e pos.line X.env = pure false := by rfl) (hw : swappedStores [.Subscript (.Name x p0) k p1] e X.env = pure none := by rfl)
    (h1 : (assignEach [.Subscript (.Name x p0) k p1] X.env).map (·.2) = [assign (.Subscript (.Name x p0) k p1) X.env] := by rfl) : TPS X B (.Assign [.Subscript (.Name x p0) k p1] e pos) (ttSetIx i te ti) := by
  refine ⟨PS.imp (ps_asg he.pe (pg_sub (tpe_v (B := B) i (pos := p0) hN hv hd hcd).pe hi.pe (PSet.or set_list (set_dict (by omega))) ha) hs hw h1) fun D σ H h => ?_⟩
  obtain ⟨F, τ, TD, I, h, ok⟩ := h
  refine lift.go I h fun r τ1 F1 H1 v h1 I1 s1 r1 f1 => ?_
  obtain ⟨t, τ2, F2, ⟨⟨s, hs⟩, h2⟩, I2, s2, rep, _⟩ := freeze I I1 s1 r1 f1 h1
  refine lift.go I2 (P := fun r τ3 => r = .var i ∧ τ3 = τ2) ⟨⟨s, hs⟩, rfl, rfl⟩ fun r τ3 F3 H3 o ⟨er, et⟩ I3 s3 r3 f3 => ?_
  subst er et
  refine lift.go I3 h2 fun ri τ4 F4 H4 k h4 I4 s4 r4 f4 => ?_
  obtain ⟨m, c, hc, hm, h5⟩ := h4.inv
  have rk := r4.rd I4.wf
  obtain ⟨a, ea, n, ow⟩ := I4.wf.own i m false c hc hm
  have eo : o = .ref a := by
    have := r3.1
    rw [ea] at this
    cases this
    rfl
  subst eo
  have rv : Rep X.K F4 t v := Rep.mono (s3.sub.trans s4.sub) _ _ rep
  have fin : ∀ c' ob, OwnAt X.K F4 (upd H4 a ob) a c' → TD.nx (τ4.set i (some ⟨m, false, c'⟩)) → D.nx σ (upd H4 a ob) := fun c' ob new q => by
    obtain ⟨I5, s5⟩ := mut_ok I4 hc hm ea new
    exact ok.nx _ _ _ _ I5 (((s2.trans s3).trans s4).trans s5).ss q
  generalize ri.t τ4 = ti' at h5 rk
  cases c with
  | lst ts =>
    cases ti' with
    | int j =>
      obtain ⟨j', e, q⟩ := h5
      obtain ⟨vs, hl, z, rp⟩ := ow
      refine .inl ⟨a, vs, j, j', rfl, rk.int, hl, by rw [← rp.len]; exact e, fin (.lst (ts.set j' t)) _ ⟨_, upd_same, by rw [List.length_set]; exact z, Reps.set j' rv rp⟩ q⟩
    | _ => exact h5.elim
  | dct ks ts =>
    obtain ⟨key, ek, hl, q⟩ := h5
    obtain ⟨kvs, hd, z, hk, rp⟩ := ow
    subst hk
    have hl' : kvs.length < sizeLine := by simpa using hl
    have ez : (putK kvs key v).length ≤ sizeLine := by
      unfold putK
      split
      · rw [List.length_map]; exact z
      · rw [List.length_append]; exact hl'
    exact .inr ⟨a, upd H4 a (.dK (putK kvs key v)), rfl, .inl ⟨kvs, key, hd, keyT_rep rk ek, hl', rfl⟩, fin (.dct (dPutK (kvs.map (·.1)) key) (dPutV (kvs.map (·.1)) ts key t)) _ ⟨_, upd_same, ez, putK_ks kvs key v, putK_vs key rv rp⟩ q⟩
  | _ => exact h5.elim

def ttDict0 : TTE := fun τ P => P (.val true (.dct [] [])) τ
theorem tpe_dict0 {pos : Pos} : TPE X B (.Dict [] [] pos) ttDict0 := by
  refine ⟨PE.imp pe_dnewK fun σ H Q h => ?_⟩
  obtain ⟨F, τ, P, I, h, q⟩ := h
  intro d hd
  have g : Grow F H F (upd H d (.dK [])) := Grow.own I.wf.sub hd
  obtain ⟨rr, fr⟩ := RG.rr (v := .ref d) (k := true) (t := .dct [] []) I.wf g ⟨d, rfl, hd, I.wf.sub.free hd, [], upd_same, Nat.zero_le _, rfl, rfl⟩
  exact q _ _ _ _ _ h (I.step (g.wf I.wf) g.step) g.step rr fr

abbrev C1 := T → (Bool → T → Prop) → Prop
def CalT1 (X : Cx) (f : Value) (g : C1) : Prop := ∃ r : List V → Hp → VK → Prop, CallR X f r ∧ ∀ (F H : Hp) (x : V) (t : T) (G : Bool → T → Prop) (Q : VK), Same F H → RdT X.K F H x t → g t G →
  (∀ k t v F' H', G k t → Grow F H F' H' → RG X.K H F' H' v k t → Q v H') → r [x] H Q
def ttC1 (g : C1) (te : TTE) : TTE := fun τ P => te τ fun r τ1 => g (r.t τ1) fun k t => P (.val k t) τ1
variable {x : Str} {p pos : Pos} {e : Expr} {te : TTE} {id T' : String} {g : C1}
theorem c1_imp {r : List V → Hp → VK → Prop} (hg : ∀ (F H : Hp) (x : V) (t : T) (G : Bool → T → Prop) (Q : VK), Same F H → RdT X.K F H x t → g t G → (∀ k t v F' H', G k t → Grow F H F' H' → RG X.K H F' H' v k t → Q v H') → r [x] H Q)
    (σ : St) (H : Hp) (Q : VK) (h : lift X.K B (ttC1 g te) σ H Q) : tCB r (tCons (lift X.K B te) tNil) σ H Q := by
  obtain ⟨F, τ, P, I, ht, hq⟩ := h
  refine lift.go I ht fun ra τ1 F1 H1 x h1 I1 s1 r1 f1 => ?_
  refine hg F1 H1 x _ _ Q I1.wf.sub (r1.rd I1.wf) h1 fun k t v F' H' gk gr rg => ?_
  obtain ⟨rr, fr⟩ := RG.rr I1.wf gr rg
  exact hq _ _ _ _ _ gk (I1.step (gr.wf I1.wf) gr.step) (s1.trans gr.step) rr (Fresh.step s1 fr)
theorem tpe_c1 (hc : CalT1 X (.builtin id) g) (hg : Gl X x) (hm : X.mg x = none) (hv : bootBuiltins x = some (.builtin id)) (he : TPE X B e te) (hs : starEach [e] X.env = (false, eval e X.env) :: starEach [] X.env := by rfl) (hn : x ≠ "__name__" := by decide) (hdb : (x == ("__debug__" : Str)) = false := by decide) :
    TPE X B (.Call (.Name x p) [e] [] pos) (ttC1 g te) := by
  obtain ⟨r, hr, hg'⟩ := hc
  exact ⟨PE.imp (pe_callB hr hg hm hv (pa_cons he.pe pa_nil hs) hn hdb hs (by rfl)) (c1_imp hg')⟩
theorem tpe_ct1 (hc : CalT1 X (.type T') g) (hg : Gl X x) (hm : X.mg x = none) (hv : bootBuiltins x = some (.type T')) (he : TPE X B e te) (hs : starEach [e] X.env = (false, eval e X.env) :: starEach [] X.env := by rfl) (hn : x ≠ "__name__" := by decide) (hdb : (x == ("__debug__" : Str)) = false := by decide) :
    TPE X B (.Call (.Name x p) [e] [] pos) (ttC1 g te) := by
  obtain ⟨r, hr, hg'⟩ := hc
  exact ⟨PE.imp (pe_callTy hr hg hm hv (pa_cons he.pe pa_nil hs) hn hdb hs (by rfl)) (c1_imp hg')⟩
def lenT : C1 := fun t k => match t with
  | .lst ts => k false (.int ts.length)
  | .tup ts => k false (.int ts.length)
  | .scr ns => k false (.int ns.length)
  | .str z => z.length ≤ sizeLine ∧ k false (.int z.length)
  | _ => False
theorem c_len : CalT1 X (.builtin "len") lenT := by
  refine ⟨_, call_len, fun F H x t G Q s r hg k => ?_⟩
  have fin : ∀ n : Nat, G false (.int n) → Q (.int n) H := fun n h => k false _ _ F H h (Grow.refl s) rfl
  cases t with
  | lst ts =>
    obtain ⟨a, vs, rfl, hl, z, rp⟩ := r.lst s
    exact ⟨_, vs.length, rfl, .inl ⟨vs, SqL.of hl, rfl⟩, fin _ (by rw [← rp.len]; exact hg)⟩
  | tup ts =>
    obtain ⟨a, vs, rfl, hl, z, rp⟩ := r.tup
    exact ⟨_, vs.length, rfl, .inr ⟨vs, SqT.mono s hl, rfl⟩, fin _ (by rw [← rp.len]; exact hg)⟩
  | scr ns =>
    obtain ⟨a, rfl, hl, z⟩ := r.scr
    exact ⟨_, ns.length, rfl, .inl ⟨_, s.seq hl, by rw [List.length_map]⟩, fin _ hg⟩
  | str z =>
    rw [r.str]
    exact ⟨_, z.length, rfl, ⟨hg.1, rfl⟩, fin _ hg.2⟩
  | _ => exact hg.elim
def listT : C1 := fun t k => match t with
  | .lst ts => k true (.lst ts)
  | .tup ts => k true (.lst ts)
  | .scr ns => k true (.lst (ns.map T.int))
  | _ => False
theorem c_list : CalT1 X (.type "list") listT := by
  refine ⟨_, call_list_of, fun F H x t G Q s r hg k => ?_⟩
  cases t with
  | lst ts =>
    obtain ⟨a, vs, rfl, hl, z, rp⟩ := r.lst s
    exact ⟨a, vs, rfl, .inl (SqL.of hl), fun l nl => k true _ _ _ _ hg (Grow.own s nl) ⟨l, rfl, nl, s.free nl, vs, upd_same, z, rp⟩⟩
  | tup ts =>
    obtain ⟨a, vs, rfl, hl, z, rp⟩ := r.tup
    exact ⟨a, vs, rfl, .inr (SqT.mono s hl), fun l nl => k true _ _ _ _ hg (Grow.own s nl) ⟨l, rfl, nl, s.free nl, vs, upd_same, z, rp⟩⟩
  | scr ns =>
    obtain ⟨a, rfl, hl, z⟩ := r.scr
    exact ⟨a, _, rfl, .inl (s.seq hl), fun l nl => k true _ _ _ _ hg (Grow.own s nl) ⟨l, rfl, nl, s.free nl, _, upd_same, by rw [List.length_map]; exact z, Reps.ints.mpr rfl⟩⟩
  | _ => exact hg.elim
def tupleT : C1 := fun t k => match t with
  | .lst ts => k false (.tup ts)
  | .tup ts => k false (.tup ts)
  | .scr ns => k false (.tup (ns.map T.int))
  | _ => False
theorem c_tuple : CalT1 X (.type "tuple") tupleT := by
  refine ⟨_, call_tuple_of, fun F H x t G Q s r hg k => ?_⟩
  cases t with
  | lst ts =>
    obtain ⟨a, vs, rfl, hl, z, rp⟩ := r.lst s
    exact ⟨a, vs, rfl, .inl ⟨SqL.of hl, fun l nl => k false _ _ _ _ hg (Grow.frz s nl) ⟨l, vs, rfl, .inl (.inl upd_same), z, Reps.mono (same_upd (s.free nl)) _ _ rp⟩⟩⟩
  | tup ts =>
    obtain ⟨a, vs, rfl, hl, z, rp⟩ := r.tup
    exact ⟨a, vs, rfl, .inr ⟨SqT.mono s hl, k false _ _ F H hg (Grow.refl s) ⟨a, vs, rfl, hl, z, rp⟩⟩⟩
  | scr ns =>
    obtain ⟨a, rfl, hl, z⟩ := r.scr
    exact ⟨a, _, rfl, .inl ⟨s.seq hl, fun l nl => k false _ _ _ _ hg (Grow.frz s nl) ⟨l, _, rfl, .inl (.inl upd_same), by rw [List.length_map]; exact z, Reps.ints.mpr rfl⟩⟩⟩
  | _ => exact hg.elim
def b2i (b : Bool) : Int := if b = true then 1 else 0
def intC : C1 := fun t k => match t with
  | .int i => k false (.int i)
  | .bl b => k false (.int (TL.b2i b))
  | .str z => ∃ n, PySem.intText? z = some n ∧ z.length ≤ 640 ∧ k false (.int n)
  | _ => False
theorem c_int : CalT1 X (.type "int") intC := by
  refine ⟨_, (call_int1 (X := X)).or call_int_str, fun F H x t G Q s r hg k => ?_⟩
  cases t with
  | int i => exact .inl (.inl ⟨i, by rw [r.int], k false _ _ F H hg (Grow.refl s) rfl⟩)
  | bl b => exact .inl (.inr ⟨b, by rw [r.bl], k false _ _ F H hg (Grow.refl s) rfl⟩)
  | str z =>
    obtain ⟨n, h1, h2, hg⟩ := hg
    exact .inr ⟨z, n, by rw [r.str], h1, h2, k false _ _ F H hg (Grow.refl s) rfl⟩
  | _ => exact hg.elim
def strC : C1 := fun t k => match t with
  | .int i => i.natAbs.log2 < 1920 ∧ k false (.str (toString i))
  | _ => False
theorem c_str : CalT1 X (.type "str") strC := by
  refine ⟨_, call_str_int, fun F H x t G Q s r hg k => ?_⟩
  cases t with
  | int i => exact ⟨i, by rw [r.int], hg.1, k false _ _ F H hg.2 (Grow.refl s) rfl⟩
  | _ => exact hg.elim
/-- a list of ints, of truths -/
def intsT (ts : List T) (P : List Int → Prop) : Prop := ∃ ns : List Int, ts = ns.map T.int ∧ P ns
def sumT : C1 := fun t k => match t with
  | .lst ts => intsT ts fun ns => k false (.int ns.sum)
  | _ => False
def blsT (ts : List T) (P : List Bool → Prop) : Prop := ∃ bs : List Bool, ts = bs.map T.bl ∧ P bs
def allT : C1 := fun t k => match t with
  | .lst ts => blsT ts fun bs => k false (.bl (bs.all _root_.id))
  | _ => False
def anyT : C1 := fun t k => match t with
  | .lst ts => blsT ts fun bs => k false (.bl (bs.any _root_.id))
  | _ => False
theorem c_all (hc : X.calm = true) : CalT1 X (.builtin "all") allT := by
  refine ⟨_, cr_all hc, fun F H x t G Q s r hg k => ?_⟩
  cases t with
  | lst ts =>
    obtain ⟨ns, rfl, hg⟩ := hg
    obtain ⟨a, vs, rfl, hl, z, rp⟩ := r.lst s
    rw [Reps.bls.mp rp] at hl
    exact ⟨a, ns, rfl, SqL.of hl, k false _ _ F H hg (Grow.refl s) rfl⟩
  | _ => exact hg.elim
/-- sorted ints -/
def srt (ns : List Int) : List Int := ns.mergeSort fun a b => decide (a ≤ b)
theorem srt_perm (ns : List Int) : (srt ns).Perm ns := List.mergeSort_perm ..
theorem srt_le (ns : List Int) : (srt ns).Pairwise (· ≤ ·) := by
  have := List.pairwise_mergeSort (le := fun a b : Int => decide (a ≤ b)) (fun a b c h1 h2 => by simp at *; omega) (fun a b => by simp; omega) ns
  exact this.imp fun h => of_decide_eq_true h
theorem srt_uniq {ns ms : List Int} (p : ms.Perm ns) (l : ms.Pairwise (· ≤ ·)) : ms = srt ns :=
  List.Perm.eq_of_pairwise (le := fun a b : Int => a ≤ b) (fun a b _ _ h1 h2 => by omega) l (srt_le ns) (p.trans (srt_perm ns).symm)
def sortedT : C1 := fun t k => match t with
  | .lst ts => intsT ts fun ns => k true (.lst ((srt ns).map T.int))
  | _ => False
end

section
variable {X : Cx} {B : Bs} {x : Str} {p pos : Pos} {e e2 : Expr} {id : String}
abbrev CN := List T → (Bool → T → Prop) → Prop
def CalTn (X : Cx) (f : Value) (g : CN) : Prop := ∃ r : List V → Hp → VK → Prop, CallR X f r ∧ ∀ (F H : Hp) (xs : List V) (ts : List T) (G : Bool → T → Prop) (Q : VK), Same F H → Reps X.K F ts xs → g ts G →
  (∀ k t v F' H', G k t → Grow F H F' H' → RG X.K H F' H' v k t → Q v H') → r xs H Q
def ttCn (g : CN) (tl : TTL) : TTE := fun τ P => tl τ fun ts τ1 => g ts fun k t => P (.val k t) τ1
theorem tpe_cn {g : CN} {tl : TTL} {es : List Expr} (hc : CalTn X (.builtin id) g) (hg : Gl X x) (hm : X.mg x = none) (hv : bootBuiltins x = some (.builtin id)) (ha : TPL X B (e :: es) tl) (hn : x ≠ "__name__" := by decide) (hdb : (x == ("__debug__" : Str)) = false := by decide)
    (he : starEach (e :: es) X.env = (false, eval e X.env) :: starEach es X.env := by rfl) (hpl : (backTo pos (starEach es X.env)).any (·.1) = false := by rfl) : TPE X B (.Call (.Name x p) (e :: es) [] pos) (ttCn g tl) := by
  obtain ⟨r, hr, hg'⟩ := hc
  refine ⟨PE.imp (pe_callB hr hg hm hv ha.pa hn hdb he hpl) fun σ H Q h => ?_⟩
  obtain ⟨F, τ, P, I, ht, hq⟩ := h
  refine ⟨F, τ, _, I, ht, fun ts τ1 F1 H1 vs h1 I1 s1 r1 => ?_⟩
  refine hg' F1 H1 vs ts _ Q I1.wf.sub r1 h1 fun k t v F' H' gk gr rg => ?_
  obtain ⟨rr, fr⟩ := RG.rr I1.wf gr rg
  exact hq _ _ _ _ _ gk (I1.step (gr.wf I1.wf) gr.step) (s1.trans gr.step) rr (Fresh.step s1 fr)
def max2T : CN := fun ts k => match ts with
  | [.int i, .int j] => k false (.int (if j > i then j else i))
  | _ => False
def min2T : CN := fun ts k => match ts with
  | [.int i, .int j] => k false (.int (if j < i then j else i))
  | _ => False
theorem c_max2 (hc : X.calm = true) : CalTn X (.builtin "max") max2T := by
  refine ⟨_, call_max2 hc, fun F H xs ts G Q s r hg k => ?_⟩
  unfold max2T at hg
  split at hg
  · obtain ⟨v, vr, rfl, e1, v2, vr2, rfl, e2, e3⟩ := r
    cases e1
    cases e2
    cases e3
    exact ⟨_, _, rfl, k false _ _ F H hg (Grow.refl s) rfl⟩
  · exact hg.elim
def negT : C1 := fun t k => match t with
  | .int i => k false (.int (-i))
  | _ => False
def ttU (g : C1) (te : TTE) : TTE := ttC1 g te
theorem tpe_neg {te : TTE} (he : TPE X B e te) : TPE X B (.UnaryOp .USub e pos) (ttU negT te) := by
  refine ⟨PE.imp (pe_un un_neg he.pe) fun σ H Q h => ?_⟩
  obtain ⟨F, τ, P, I, ht, hq⟩ := h
  refine lift.go I ht fun ra τ1 F1 H1 x h1 I1 s1 r1 f1 => ?_
  have rd := r1.rd I1.wf
  generalize ra.t τ1 = t at h1 rd
  cases t with
  | int i => exact ⟨i, rd.int, hq _ _ _ _ _ h1 I1 s1 rfl trivial⟩
  | _ => exact h1.elim
end
end TL

namespace TL
open PySem L2
structure Cal (P : Program) (w : World) (K : PySem.W.Frag) (mg : Str → Option Value) (base : Heap) (CX : CXT) (cls : String → Addr) (x : Str) (ps : List Str) (k : Nat) (S : TSp) : Prop where
  ex : ∃ f fd, FnOk P w K mg base CX k f fd ps (liftSp K cls S) ∧ mg x = some (.ref f) ∧ PySem.W.keepIn K (.ref f) = true ∧ Binds K fd ps []
def nox : String → TSt → Prop := fun _ _ => False
section
variable {X : Cx} {B : Bs} {k : Nat} {cls : String → Addr} {S : TSp} {x : Str} {ps : List Str} {ta : TTA} {p pos : Pos} {e : Expr} {es : List Expr}
theorem tpe_calls (C : Cal X.prog X.w X.K X.mg X.base CX0 cls x ps k S) (hr : Room k X.A) (hg : Gl X x) (ha : TPA X B (e :: es) ta) (hdb : (x == ("__debug__" : Str)) = false := by decide)
    (he : starEach (e :: es) X.env = (false, eval e X.env) :: starEach es X.env := by rfl) (hpl : (backTo pos (starEach es X.env)).any (·.1) = false := by rfl) : TPE X B (.Call (.Name x p) (e :: es) [] pos) (ttCall S nox ta) := by
  obtain ⟨f, fd, F, hm, hk, hb⟩ := C.ex
  exact tpe_call (E := E0) F hr hg hm hk hb pass0 (fun _ _ _ _ _ _ h => h.elim) ha hdb he hpl
end
def tyN : T → Option String
  | .non => some "NoneType"
  | .bl _ => some "bool"
  | .int _ => some "int"
  | .str _ => some "str"
  | .tup _ => some "tuple"
  | .lst _ => some "list"
  | .dct _ _ => some "dict"
  | _ => none
def isiT (c : String) (t : T) : Option Bool := if c = "int" then (tyN t).map (fun n => n == "int" || n == "bool") else if c = "bool" then (tyN t).map (· == "bool") else if c = "str" then (tyN t).map (· == "str")
  else if c = "tuple" then (tyN t).map (· == "tuple") else if c = "list" then (tyN t).map (· == "list") else none
theorem tyN_rep {K : PySem.W.Frag} {F H : Hp} {v : V} {t : T} {n : String} (s : Same F H) (r : RdT K F H v t) (e : tyN t = some n) : TyX K H v (.type n) := by
  cases t with
  | non => cases e; rw [r.non]; exact .base .non
  | bl b => cases e; rw [r.bl]; exact .base (.bl b)
  | int b => cases e; rw [r.int]; exact .base (.int b)
  | str b => cases e; rw [r.str]; exact .base (.str b)
  | tup ts =>
    cases e
    obtain ⟨a, vs, rfl, q, _⟩ := r.tup
    rcases q with (q | ⟨o, q⟩) | ⟨o, its, n, q, c, _⟩
    · exact .base (.tup (s _ _ q))
    · exact .fTuple (s _ _ q)
    · exact .kTuple q c
  | lst ts =>
    cases e
    obtain ⟨a, vs, rfl, q, _⟩ := r.lst s
    exact .base (.lst q)
  | dct ks ts =>
    cases e
    obtain ⟨a, vs, rfl, q, _⟩ := r.dct s
    rcases q with q | ⟨o, q⟩
    · exact .base (.dK q)
    · exact .fDict q
  | _ => cases e
theorem isiT_kit {c : String} {t : T} {b : Bool} (h : isiT c t = some b) : ∃ n, tyN t = some n ∧ kitB n c = some b := by
  unfold isiT at h
  split at h
  · rename_i e; subst e
    cases t <;> first | (cases h; exact ⟨_, rfl, by decide +kernel⟩) | (cases h)
  · split at h
    · rename_i e; subst e
      cases t <;> first | (cases h; exact ⟨_, rfl, by decide +kernel⟩) | (cases h)
    · split at h
      · rename_i e; subst e
        cases t <;> first | (cases h; exact ⟨_, rfl, by decide +kernel⟩) | (cases h)
      · split at h
        · rename_i e; subst e
          cases t <;> first | (cases h; exact ⟨_, rfl, by decide +kernel⟩) | (cases h)
        · split at h
          · rename_i e; subst e
            cases t <;> first | (cases h; exact ⟨_, rfl, by decide +kernel⟩) | (cases h)
          · cases h
def ttIsi (c : String) (te : TTE) : TTE := fun τ P => te τ fun r τ1 => match isiT c (r.t τ1) with
  | some b => P (.val false (.bl b)) τ1
  | none => False
section
variable {X : Cx} {B : Bs} {p p2 pos : Pos} {e : Expr} {te : TTE} {c : String} {x : Str}
theorem tpe_isi (hg : Gl X "isinstance") (hm : X.mg "isinstance" = none) (hg2 : Gl X x) (hm2 : X.mg x = none) (hv2 : bootBuiltins x = some (.type c)) (he : TPE X B e te) (hn : x ≠ "__name__" := by decide) (hdb : (x == ("__debug__" : Str)) = false := by decide)
    (hs : starEach [e, .Name x p2] X.env = (false, eval e X.env) :: starEach [.Name x p2] X.env := by rfl) (hs2 : starEach [.Name x p2] X.env = (false, eval (.Name x p2) X.env) :: starEach [] X.env := by rfl) (hpl : (backTo pos (starEach [.Name x p2] X.env)).any (·.1) = false := by rfl) :
    TPE X B (.Call (.Name "isinstance" p) [e, .Name x p2] [] pos) (ttIsi c te) := by
  refine ⟨PE.imp (pe_callB call_isi hg hm (by decide +kernel) (pa_cons he.pe (pa_cons (pe_bltn (v := .ty c) hg2 hm2 hv2 rfl hn hdb) pa_nil hs2) hs) (by decide) (by decide) hs hpl) fun σ H Q h => ?_⟩
  obtain ⟨F, τ, P, I, ht, hq⟩ := h
  refine lift.go I ht fun r τ1 F1 H1 v h1 I1 s1 r1 f1 => ?_
  have rd := r1.rd I1.wf
  generalize r.t τ1 = t at h1 rd
  split at h1
  · rename_i b e
    obtain ⟨n, hn', hk⟩ := isiT_kit e
    exact ⟨v, .ty c, .type n, .type c, b, rfl, .ty c, tyN_rep I1.wf.sub rd hn', kit_ty hk, hq _ _ _ _ _ h1 I1 s1 rfl trivial⟩
  · exact h1.elim
end
section
variable {X : Cx} {B : Bs} {tg : Expr}
def revI (t : T) (P : List T → Prop) : Prop := match t with
  | .lst ts => P ts.reverse
  | .tup ts => P ts.reverse
  | _ => False
def tiRev (tx : TTX) : TTI := fun τ P => tx τ fun t u τ1 => revI t fun ts => P ts u τ1
/-- pairs of two lists or tuples, as many as the shorter one has -/
def zipI (s t : T) (P : List T → Prop) : Prop := match s, t with
  | .lst xs, .lst ys => P (List.zipWith (fun x y => T.tup [x, y]) xs ys)
  | .tup xs, .tup ys => P (List.zipWith (fun x y => T.tup [x, y]) xs ys)
  | _, _ => False
def tiZip (tx : TTX) (te : TTE) : TTI := fun τ P => tx τ fun t u τ1 => te τ1 fun r τ2 => frzR r τ2 fun t2 τ3 => zipI t t2 fun ts => P ts u τ3
end
end TL

namespace TL
open PySem L2
theorem atI_0 {α : Type} {x : α} {xs : List α} : atI (x :: xs) 0 = some x := atI_nat (j := 0) rfl
theorem atI_1 {α : Type} {x y : α} {xs : List α} : atI (x :: y :: xs) 1 = some y := atI_nat (j := 1) rfl
theorem atI_2 {α : Type} {x y z : α} {xs : List α} : atI (x :: y :: z :: xs) 2 = some z := atI_nat (j := 2) rfl
theorem atI_3 {α : Type} {x y z u : α} {xs : List α} : atI (x :: y :: z :: u :: xs) 3 = some u := atI_nat (j := 3) rfl
theorem atI_m1 {α : Type} {xs : List α} (h : xs ≠ []) : atI xs (-1) = some (xs.getLast h) := by
  have := atI_last xs.dropLast (xs.getLast h)
  rwa [List.dropLast_concat_getLast h] at this
theorem ixN_lt {n j : Nat} (h : j < n) : ixN n (j : Int) = some j := by
  unfold ixN
  rw [if_pos (by omega), if_pos (by omega), Int.toNat_natCast]
theorem ixN_0 {n : Nat} : ixN (n + 1) 0 = some 0 := ixN_lt (j := 0) (by omega)
theorem ixN_1 {n : Nat} : ixN (n + 1 + 1) 1 = some 1 := ixN_lt (j := 1) (by omega)
theorem ixN_2 {n : Nat} : ixN (n + 1 + 1 + 1) 2 = some 2 := ixN_lt (j := 2) (by omega)
theorem atI_some {α : Type} {xs : List α} {i : Int} (h0 : 0 ≤ i) (h1 : i < xs.length) : atI xs i = some (xs[i.toNat]'(by omega)) := by
  have e := atI_nat (xs := xs) (j := i.toNat) (List.getElem?_eq_getElem (by omega : i.toNat < xs.length))
  rwa [Int.toNat_of_nonneg h0] at e
theorem ex_some {p : T → Prop} {t : T} : (∃ u, some t = some u ∧ p u) ↔ p t := by simp
theorem log2_ok {j : Int} {n : Nat} (h0 : 0 < j) (h : j < 2 ^ n) (hn : n ≤ 9000) (h1 : 0 < n) : j.natAbs.log2 < 9000 := by
  have : j.natAbs < 2 ^ n := by
    have e : ((2 ^ n : Nat) : Int) = (2 : Int) ^ n := by simp
    omega
  exact Nat.lt_of_lt_of_le (PySem.Flt.log2_lt_of h1 this) hn
/-- a slot that holds nothing, or a frozen value -/
def ofT (o : Option T) : Option Sl := o.map fun t => ⟨.frz, false, t⟩
theorem canS_of {o : Option T} : canS (some (ofT o)) = true := by cases o <;> rfl
theorem canS_none : canS (some none) = true := rfl
theorem canS_some {k : Kd} {t : T} : canS (some (some ⟨k, false, t⟩)) = true := rfl
theorem ofT_none : ofT none = none := rfl
theorem ofT_some {t : T} : ofT (some t) = some ⟨.frz, false, t⟩ := rfl
theorem frzAt_of {τ : TSt} {i : Nat} {o : Option T} (h : τ[i]? = some (ofT o)) : frzAt τ i := by
  unfold frzAt
  rw [h]
  cases o <;> exact trivial
/-- while, by a family of states -/
theorem while_p {α : Type} {c : TTT} {tb : TTS} {D : TEnds} {τ : TSt} (st : α → TSt) (I : α → Prop) (μ : α → Nat) (a0 : α) (e0 : τ = st a0) (h0 : I a0)
    (h : ∀ a, I a → c (st a) fun b τ1 => if b = true then tb { D with nx := fun τ' => ∃ a', τ' = st a' ∧ I a' ∧ μ a' < μ a, ct := fun τ' => ∃ a', τ' = st a' ∧ I a' ∧ μ a' < μ a, bk := D.nx } τ1 else D.nx τ1) : ttWhile c tb D τ := by
  refine ⟨fun m τ => ∃ a, τ = st a ∧ I a ∧ μ a = m, ⟨_, a0, e0, h0, rfl⟩, ?_⟩
  rintro m τ ⟨a, rfl, ha, rfl⟩
  have e : (fun τ' => ∃ m', m' < μ a ∧ ∃ a', τ' = st a' ∧ I a' ∧ μ a' = m') = fun τ' => ∃ a', τ' = st a' ∧ I a' ∧ μ a' < μ a := by
    funext τ'
    apply propext
    constructor
    · rintro ⟨m', hm, a', e, h, rfl⟩
      exact ⟨a', e, h, hm⟩
    · rintro ⟨a', e, h, hm⟩
      exact ⟨_, hm, a', e, h, rfl⟩
  rw [e]
  exact h a ha
/-- for, by a family of states -/
theorem for_p {α : Type} {ts : List T} {u : Lk} {τ1 τ0 : TSt} {g : TTG} {tb : TTS} {D : TEnds} (st : α → TSt) (I : Nat → α → Prop) (a0 : α) (e0 : τ0 = st a0) (h0 : I 0 a0)
    (h : ∀ i t a, ts[i]? = some t → I i a → g t (st a) fun τ3 => tb { D with nx := fun τ' => ∃ a', τ' = st a' ∧ I (i + 1) a', ct := fun τ' => ∃ a', τ' = st a' ∧ I (i + 1) a', bk := fun τ4 => D.nx (unl u τ1 τ4) } τ3)
    (hd : ∀ a, I ts.length a → D.nx (unl u τ1 (st a))) : ∃ Pv : Nat → TSt → Prop, Pv 0 τ0 ∧ (∀ i t τ2, ts[i]? = some t → Pv i τ2 → g t τ2 fun τ3 => tb { D with nx := Pv (i + 1), ct := Pv (i + 1), bk := fun τ4 => D.nx (unl u τ1 τ4) } τ3) ∧ ∀ τ2, Pv ts.length τ2 → D.nx (unl u τ1 τ2) :=
  ⟨fun i τ => ∃ a, τ = st a ∧ I i a, ⟨a0, e0, h0⟩, fun i t τ2 ht ⟨a, e, ha⟩ => by subst e; exact h i t a ht ha, fun τ2 ⟨a, e, ha⟩ => by subst e; exact hd a ha⟩
/-- a comprehension whose turns change nothing -/
theorem lc_pure {ts : List T} {τw : TSt} {g : TTG} {tt : TTT} {te : TTE} {vs : List Nat} {Q : List T → TSt → Prop} (f : T → Option T) (hl : ts.length ≤ sizeLine)
    (h : ∀ t ∈ ts, g t τw fun τ3 => tt τ3 fun b τ4 => if b = true then te τ4 fun r τ5 => frzR r τ5 fun y τ6 => f t = some y ∧ wipeT τ6 vs = τw else f t = none ∧ wipeT τ4 vs = τw)
    (hd : Q (ts.filterMap f) τw) : ∃ Pv : Nat → List T → TSt → Prop, Pv 0 [] τw ∧
    (∀ i t acc τ2, ts[i]? = some t → Pv i acc τ2 → g t τ2 fun τ3 => tt τ3 fun b τ4 =>
      if b = true then te τ4 fun r τ5 => frzR r τ5 fun y τ6 => acc.length < sizeLine ∧ Pv (i + 1) (acc ++ [y]) (wipeT τ6 vs) else Pv (i + 1) acc (wipeT τ4 vs)) ∧ ∀ acc τ2, Pv ts.length acc τ2 → Q acc τ2 := by
  refine ⟨fun i acc τ => τ = τw ∧ acc = (ts.take i).filterMap f, ⟨rfl, rfl⟩, ?_, ?_⟩
  · rintro i t acc τ2 ht ⟨rfl, rfl⟩
    have hi : i < ts.length := (List.getElem?_eq_some_iff.mp ht).1
    have lt : ((ts.take i).filterMap f).length < sizeLine := by
      have h1 := List.length_filterMap_le f (ts.take i)
      rw [List.length_take] at h1
      omega
    have e : (ts.take (i + 1)).filterMap f = (ts.take i).filterMap f ++ (f t).toList := by
      rw [List.take_add_one, List.filterMap_append, ht]
      simp only [Option.toList_some, List.filterMap_cons, List.filterMap_nil]
      cases f t <;> rfl
    have h1 := h t (List.mem_of_getElem? ht)
    have e1 : ∀ y τ6, (((ts.take i).filterMap f).length < sizeLine ∧ wipeT τ6 vs = τ2 ∧ (ts.take i).filterMap f ++ [y] = (ts.take (i + 1)).filterMap f) = (f t = some y ∧ wipeT τ6 vs = τ2) := fun y τ6 => by
      apply propext
      rw [e]
      constructor
      · rintro ⟨_, h2, h3⟩
        have h4 := List.append_cancel_left h3
        cases q : f t with
        | none => rw [q] at h4; cases h4
        | some z =>
          rw [q] at h4
          cases h4
          exact ⟨rfl, h2⟩
      · rintro ⟨h2, h3⟩
        rw [h2]
        exact ⟨lt, h3, rfl⟩
    have e2 : ∀ τ4, (wipeT τ4 vs = τ2 ∧ (ts.take i).filterMap f = (ts.take (i + 1)).filterMap f) = (f t = none ∧ wipeT τ4 vs = τ2) := fun τ4 => by
      apply propext
      rw [e]
      constructor
      · rintro ⟨h2, h3⟩
        cases q : f t with
        | none => exact ⟨rfl, h2⟩
        | some z =>
          rw [q] at h3
          have := congrArg List.length h3
          simp at this
      · rintro ⟨h2, h3⟩
        rw [h2]
        exact ⟨h3, by simp⟩
    simp only [e1, e2]
    exact h1
  · rintro acc τ2 ⟨rfl, rfl⟩
    rw [List.take_length]
    exact hd
/-- .. whose every item is kept -/
theorem lc_map {ts : List T} {τw : TSt} {g : TTG} {te : TTE} {vs : List Nat} {Q : List T → TSt → Prop} (f : T → T) (hl : ts.length ≤ sizeLine)
    (h : ∀ t ∈ ts, g t τw fun τ3 => te τ3 fun r τ5 => frzR r τ5 fun y τ6 => f t = y ∧ wipeT τ6 vs = τw)
    (hd : Q (ts.map f) τw) : ∃ Pv : Nat → List T → TSt → Prop, Pv 0 [] τw ∧
    (∀ i t acc τ2, ts[i]? = some t → Pv i acc τ2 → g t τ2 fun τ3 => ttYes τ3 fun b τ4 =>
      if b = true then te τ4 fun r τ5 => frzR r τ5 fun y τ6 => acc.length < sizeLine ∧ Pv (i + 1) (acc ++ [y]) (wipeT τ6 vs) else Pv (i + 1) acc (wipeT τ4 vs)) ∧ ∀ acc τ2, Pv ts.length acc τ2 → Q acc τ2 := by
  refine lc_pure (fun t => some (f t)) hl (fun t ht => ?_) (by rw [List.filterMap_eq_map']; exact hd)
  have := h t ht
  simp only [ttYes, if_true, Option.some.injEq]
  exact this
end TL

namespace TL
open PySem L2
structure Ok1 (d : Nat) (t : T) : Prop where
  pl : t.plain = true
  lay : t.D.canLay0 = true
  dp : t.D.depth ≤ d
theorem Ok1.eqOk {t : T} {d : Nat} (h : Ok1 d t) (hd : d ≤ 64) : eqOk t = true := by
  unfold TL.eqOk SeqAt.shaped
  rw [h.pl, h.lay, decide_eq_true (Nat.le_trans h.dp hd)]
  rfl
theorem Ok1.mono {t : T} {d e : Nat} (h : Ok1 d t) (hd : d ≤ e) : Ok1 e t := ⟨h.pl, h.lay, Nat.le_trans h.dp hd⟩
theorem ok1_bl {d : Nat} {b : Bool} : Ok1 d (.bl b) := ⟨rfl, by simp [T.D, PyData.canLay0], by simp [T.D, PyData.depth]⟩
theorem ok1_int {d : Nat} {i : Int} : Ok1 d (.int i) := ⟨rfl, by simp [T.D, PyData.canLay0], by simp [T.D, PyData.depth]⟩
theorem ok1_str {d : Nat} {x : Str} (h : PyData.strOk x = true) : Ok1 d (.str x) := ⟨rfl, by simp [T.D, PyData.canLay0, h], by simp [T.D, PyData.depth]⟩
theorem ok1_list {d : Nat} : ∀ {ts : List T}, (∀ t ∈ ts, Ok1 d t) → T.plains ts = true ∧ PyData.canLayAll0 (T.Ds ts) = true ∧ PyData.depthAll (T.Ds ts) ≤ d
  | [], _ => ⟨rfl, by simp [T.Ds, PyData.canLayAll0], by simp [T.Ds, PyData.depthAll]⟩
  | t :: ts, h => by
    obtain ⟨h1, h2, h3⟩ := ok1_list fun t ht => h t (List.mem_cons_of_mem _ ht)
    have q := h t List.mem_cons_self
    refine ⟨by simp [T.plains, q.pl, h1], by simp [T.Ds, PyData.canLayAll0, q.lay, h2], ?_⟩
    simp only [T.Ds, PyData.depthAll]
    have := q.dp
    omega
theorem ok1_tup {d : Nat} {ts : List T} (h : ∀ t ∈ ts, Ok1 d t) : Ok1 (d + 1) (.tup ts) := by
  obtain ⟨h1, h2, h3⟩ := ok1_list h
  exact ⟨h1, by simp [T.D, PyData.canLay0, h2], by simp only [T.D, PyData.depth]; omega⟩
theorem ok1_lst {d : Nat} {ts : List T} (h : ∀ t ∈ ts, Ok1 d t) : Ok1 (d + 1) (.lst ts) := by
  obtain ⟨h1, h2, h3⟩ := ok1_list h
  exact ⟨h1, by simp [T.D, PyData.canLay0, h2], by simp only [T.D, PyData.depth]; omega⟩
theorem ok1_ints {d : Nat} {ns : List Int} : ∀ t ∈ ns.map T.int, Ok1 d t := fun t ht => by
  obtain ⟨n, _, rfl⟩ := List.mem_map.mp ht
  exact ok1_int
theorem ok1_bls {d : Nat} {ns : List Bool} : ∀ t ∈ ns.map T.bl, Ok1 d t := fun t ht => by
  obtain ⟨n, _, rfl⟩ := List.mem_map.mp ht
  exact ok1_bl
theorem eo_int {i : Int} : eqOk (.int i) = true := (ok1_int (d := 0)).eqOk (by decide)
theorem eo_bl {b : Bool} : eqOk (.bl b) = true := (ok1_bl (d := 0)).eqOk (by decide)
theorem eo_str {x : Str} (h : PyData.strOk x = true) : eqOk (.str x) = true := (ok1_str (d := 0) h).eqOk (by decide)
theorem eo_ints {ns : List Int} : eqOk (.lst (ns.map .int)) = true := (ok1_lst (d := 0) ok1_ints).eqOk (by decide)
theorem eo_intsT {ns : List Int} : eqOk (.tup (ns.map .int)) = true := (ok1_tup (d := 0) ok1_ints).eqOk (by decide)
theorem eo_bls {ns : List Bool} : eqOk (.lst (ns.map .bl)) = true := (ok1_lst (d := 0) ok1_bls).eqOk (by decide)
theorem ev_int {i j : Int} : T.eqv (.int i) (.int j) = decide (i = j) := by rw [Bool.eq_iff_iff]; simp [T.eqv, T.D, PyData.eqv]
theorem ev_bl {i j : Bool} : T.eqv (.bl i) (.bl j) = decide (i = j) := by rw [Bool.eq_iff_iff]; simp [T.eqv, T.D, PyData.eqv]
theorem ev_str {i j : Str} : T.eqv (.str i) (.str j) = decide (i = j) := by rw [Bool.eq_iff_iff]; simp [T.eqv, T.D, PyData.eqv]
theorem ev_lst {xs ys : List T} : T.eqv (.lst xs) (.lst ys) = PyData.eqvAll (T.Ds xs) (T.Ds ys) := by simp [T.eqv, T.D, PyData.eqv]
theorem ev_tup {xs ys : List T} : T.eqv (.tup xs) (.tup ys) = PyData.eqvAll (T.Ds xs) (T.Ds ys) := by simp [T.eqv, T.D, PyData.eqv]
/-- == is equality where it is so of the parts -/
theorem eqvAll_iff : ∀ {xs ys : List T}, (∀ x ∈ xs, ∀ y ∈ ys, T.eqv x y = true ↔ x = y) → (PyData.eqvAll (T.Ds xs) (T.Ds ys) = true ↔ xs = ys)
  | [], [], _ => by simp [T.Ds, PyData.eqvAll]
  | [], y :: ys, _ => by simp [T.Ds, PyData.eqvAll]
  | x :: xs, [], _ => by simp [T.Ds, PyData.eqvAll]
  | x :: xs, y :: ys, h => by
    have h1 := h x List.mem_cons_self y List.mem_cons_self
    have h2 := eqvAll_iff (xs := xs) (ys := ys) fun a ha b hb => h a (List.mem_cons_of_mem _ ha) b (List.mem_cons_of_mem _ hb)
    simp only [T.Ds, PyData.eqvAll, Bool.and_eq_true, h2, List.cons.injEq]
    rw [show PyData.eqv x.D y.D = T.eqv x y from rfl, h1]
theorem map_int_inj {xs ys : List Int} : xs.map T.int = ys.map T.int ↔ xs = ys := by
  constructor
  · intro h
    induction xs generalizing ys with
    | nil => cases ys with
      | nil => rfl
      | cons _ _ => cases h
    | cons x xs ih => cases ys with
      | nil => cases h
      | cons y ys =>
        injection h with h1 h2
        injection h1 with h1
        rw [h1, ih h2]
  · intro h; rw [h]
theorem map_bl_inj {xs ys : List Bool} : xs.map T.bl = ys.map T.bl ↔ xs = ys := by
  constructor
  · intro h
    induction xs generalizing ys with
    | nil => cases ys with
      | nil => rfl
      | cons _ _ => cases h
    | cons x xs ih => cases ys with
      | nil => cases h
      | cons y ys =>
        injection h with h1 h2
        injection h1 with h1
        rw [h1, ih h2]
  · intro h; rw [h]
theorem eqvAll_ints {xs ys : List Int} : PyData.eqvAll (T.Ds (xs.map .int)) (T.Ds (ys.map .int)) = decide (xs = ys) := by
  rw [Bool.eq_iff_iff, eqvAll_iff, map_int_inj, decide_eq_true_eq]
  intro x hx y hy
  obtain ⟨i, _, rfl⟩ := List.mem_map.mp hx
  obtain ⟨j, _, rfl⟩ := List.mem_map.mp hy
  rw [ev_int, decide_eq_true_eq, T.int.injEq]
theorem ev_ints {xs ys : List Int} : T.eqv (.lst (xs.map .int)) (.lst (ys.map .int)) = decide (xs = ys) := by rw [ev_lst, eqvAll_ints]
theorem ev_intsT {xs ys : List Int} : T.eqv (.tup (xs.map .int)) (.tup (ys.map .int)) = decide (xs = ys) := by rw [ev_tup, eqvAll_ints]
theorem any_int {xs : List Int} {n : Int} : ((xs.map T.int).any fun t => T.eqv t (.int n)) = decide (n ∈ xs) := by
  rw [Bool.eq_iff_iff, List.any_eq_true, decide_eq_true_eq]
  constructor
  · rintro ⟨t, ht, e⟩
    obtain ⟨i, hi, rfl⟩ := List.mem_map.mp ht
    rw [ev_int, decide_eq_true_eq] at e
    rw [← e]
    exact hi
  · intro h
    exact ⟨.int n, List.mem_map_of_mem h, by rw [ev_int]; exact decide_eq_true rfl⟩
theorem atI_last_int {ns : List Int} (h : ns ≠ []) : atI (ns.map T.int) (-1) = some (.int (ns.getLast h)) := by
  rw [atI_map, atI_m1 h]
  rfl
theorem atI_int {ns : List Int} {i : Int} (h0 : 0 ≤ i) (h1 : i < ns.length) : atI (ns.map T.int) i = some (.int (ns[i.toNat]'(by omega))) := by
  rw [atI_map, atI_some h0 h1]
  rfl
theorem rngT_get {lo : Int} {n i : Nat} {t : T} (h : (rngT lo n)[i]? = some t) : i < n ∧ t = .int (lo + i) := by
  unfold rngT at h
  rw [List.getElem?_map] at h
  by_cases hi : i < n
  · rw [List.getElem?_range hi] at h
    cases h
    exact ⟨hi, rfl⟩
  · rw [List.getElem?_eq_none (by simpa using hi)] at h
    cases h
theorem rngT_len {lo : Int} {n : Nat} : (rngT lo n).length = n := by simp [rngT]
theorem ints_get {ns : List Int} {i : Nat} {t : T} (h : (ns.map T.int)[i]? = some t) : ∃ n, ns[i]? = some n ∧ t = .int n := by
  rw [List.getElem?_map] at h
  cases e : ns[i]? with
  | none => rw [e] at h; cases h
  | some n => rw [e] at h; cases h; exact ⟨n, rfl, rfl⟩
theorem sizeLine_val : sizeLine = 16777216 := by decide
end TL

namespace TL
open PySem L2
/-- an equation that is used by its proof -/
theorem rf {α : Sort u} {a b : α} (h : a = b) : a = b := h
class Bx (α : Sort u) : Sort (max 1 u) where
  get : α
def box {α : Sort u} [b : Bx α] : α := b.get
theorem bx_app {α : Sort u} {β : Sort v} {f : α → β} {x : α} : (@box (α → β) ⟨f⟩) x = f x := rf rfl
def seqD (u : TTS) (D : TEnds) : TEnds := { D with nx := u D }
def loopD (P b : TSt → Prop) (D : TEnds) : TEnds := { D with nx := P, ct := P, bk := b }
section
variable {u : TTS} {D : TEnds} {P b : TSt → Prop}
theorem sD_nx : (seqD u D).nx = u D := rf rfl
theorem sD_rt : (seqD u D).rt = D.rt := rf rfl
theorem sD_bk : (seqD u D).bk = D.bk := rf rfl
theorem sD_ct : (seqD u D).ct = D.ct := rf rfl
theorem lD_nx : (loopD P b D).nx = P := rf rfl
theorem lD_rt : (loopD P b D).rt = D.rt := rf rfl
theorem lD_bk : (loopD P b D).bk = b := rf rfl
theorem lD_ct : (loopD P b D).ct = P := rf rfl
end
def cnd (b : Bool) (f g : Unit → Prop) : Prop := if b = true then f () else g ()
theorem cnd_t {f g : Unit → Prop} : cnd true f g = f () := rf rfl
theorem cnd_f {f g : Unit → Prop} : cnd false f g = g () := rf rfl
theorem cnd_not {b : Bool} {f g : Unit → Prop} : cnd (!b) f g = cnd b g f := by cases b <;> rfl
theorem cnd_T {p : Prop} [Decidable p] {f g : Unit → Prop} (h : p) (hf : f ()) : cnd (decide p) f g := by rw [decide_eq_true h]; exact hf
theorem cnd_F {p : Prop} [Decidable p] {f g : Unit → Prop} (h : ¬p) (hg : g ()) : cnd (decide p) f g := by rw [decide_eq_false h]; exact hg
theorem cnd_2 {p : Prop} [Decidable p] {f g : Unit → Prop} (hf : p → f ()) (hg : ¬p → g ()) : cnd (decide p) f g := by
  by_cases h : p
  · exact cnd_T h (hf h)
  · exact cnd_F h (hg h)
theorem cnd_b {b : Bool} {f g : Unit → Prop} (hf : b = true → f ()) (hg : b = false → g ()) : cnd b f g := by
  cases b with
  | true => exact hf rfl
  | false => exact hg rfl
def blK (t : T) (k : Bool → Prop) : Prop := match t with
  | .bl b => k b
  | _ => False
theorem blK_bl {b : Bool} {k : Bool → Prop} : blK (.bl b) k = k b := rf rfl
def inK (t : T) (k : Int → Prop) : Prop := match t with
  | .int b => k b
  | _ => False
theorem inK_int {b : Int} {k : Int → Prop} : inK (.int b) k = k b := rf rfl
def opK (o : Option Bool) (k : Bool → Prop) : Prop := match o with
  | some b => k b
  | none => False
theorem opK_some {b : Bool} {k : Bool → Prop} : opK (some b) k = k b := rf rfl
def r1K (ts : List T) (τ : TSt) (P : List T → Lk → TSt → Prop) : Prop := match ts with
  | [.int j] => (-(2 ^ 62) ≤ j ∧ j < 2 ^ 62) ∧ P (rngT 0 j.toNat) none τ
  | _ => False
theorem r1K_i {j : Int} {τ : TSt} {P : List T → Lk → TSt → Prop} : r1K [.int j] τ P = ((-(2 ^ 62) ≤ j ∧ j < 2 ^ 62) ∧ P (rngT 0 j.toNat) none τ) := rf rfl
def r2K (ts : List T) (τ : TSt) (P : List T → Lk → TSt → Prop) : Prop := match ts with
  | [.int i, .int j] => (-(2 ^ 62) ≤ i ∧ i < 2 ^ 62 ∧ -(2 ^ 62) ≤ j ∧ j < 2 ^ 62) ∧ P (rngT i (j - i).toNat) none τ
  | _ => False
theorem r2K_i {i j : Int} {τ : TSt} {P : List T → Lk → TSt → Prop} : r2K [.int i, .int j] τ P = ((-(2 ^ 62) ≤ i ∧ i < 2 ^ 62 ∧ -(2 ^ 62) ≤ j ∧ j < 2 ^ 62) ∧ P (rngT i (j - i).toNat) none τ) := rf rfl
def frK (r : R) (o : Option (Option Sl)) (τ : TSt) (P : T → TSt → Prop) : Prop := match r with
  | .val _ t => P t τ
  | .var i => match o with
    | some (some ⟨.frz, _, t⟩) => P t τ
    | some (some ⟨.own, false, t⟩) => P t (τ.set i (some ⟨.frz, false, t⟩))
    | _ => False
theorem frz_val {k : Bool} {t : T} {τ : TSt} {P : T → TSt → Prop} : frzR (.val k t) τ P = P t τ := rf rfl
theorem frz_var {i : Nat} {τ : TSt} {P : T → TSt → Prop} : frzR (.var i) τ P = frK (.var i) τ[i]? τ P := rf rfl
theorem frK_f {i : Nat} {l : Bool} {t : T} {τ : TSt} {P : T → TSt → Prop} : frK (.var i) (some (some ⟨.frz, l, t⟩)) τ P = P t τ := rf rfl
theorem frK_o {i : Nat} {t : T} {τ : TSt} {P : T → TSt → Prop} : frK (.var i) (some (some ⟨.own, false, t⟩)) τ P = P t (τ.set i (some ⟨.frz, false, t⟩)) := rf rfl
theorem stR_v {t : T} {τ : TSt} {i : Nat} {P : TSt → Prop} : stR (.val true t) τ i P = setS τ i ⟨.own, false, t⟩ P := rf rfl
theorem stR_f {t : T} {τ : TSt} {i : Nat} {P : TSt → Prop} : stR (.val false t) τ i P = setS τ i ⟨.frz, false, t⟩ P := rf rfl
theorem stR_n {j : Nat} {τ : TSt} {i : Nat} {P : TSt → Prop} : stR (.var j) τ i P = frzR (.var j) τ (@box _ ⟨fun t τ1 => setS τ1 i ⟨.frz, false, t⟩ P⟩) := rf rfl
def slK (o : Option (Option Sl)) (i : Nat) (τ : TSt) (P : T → Lk → TSt → Prop) : Prop := match o with
  | some (some s) => P s.t (some i) τ
  | _ => False
theorem sl_eq {i : Nat} {τ : TSt} {P : T → Lk → TSt → Prop} : sl i τ P = slK τ[i]? i τ P := rf rfl
theorem slK_s {s : Sl} {i : Nat} {τ : TSt} {P : T → Lk → TSt → Prop} : slK (some (some s)) i τ P = P s.t (some i) τ := rf rfl
def mtK (o : Option (Option Sl)) (τ : TSt) (i : Nat) (ts : List T) (g : MG) (P : R → TSt → Prop) : Prop := match o with
  | some (some ⟨.own, false, t⟩) => g t ts fun t' u => P (.val false u) (τ.set i (some ⟨.own, false, t'⟩))
  | some (some ⟨.arg j, false, t⟩) => g t ts fun t' u => P (.val false u) (τ.set i (some ⟨.arg j, false, t'⟩))
  | _ => False
theorem mutS_eq {τ : TSt} {i : Nat} {ts : List T} {g : MG} {P : R → TSt → Prop} : mutS τ i ts g P = mtK τ[i]? τ i ts g P := rf rfl
theorem mtK_o {τ : TSt} {i : Nat} {ts : List T} {t : T} {g : MG} {P : R → TSt → Prop} : mtK (some (some ⟨.own, false, t⟩)) τ i ts g P = g t ts (@box _ ⟨fun t' u => P (.val false u) (τ.set i (some ⟨.own, false, t'⟩))⟩) := rf rfl
theorem mtK_a {τ : TSt} {i j : Nat} {ts : List T} {t : T} {g : MG} {P : R → TSt → Prop} : mtK (some (some ⟨.arg j, false, t⟩)) τ i ts g P = g t ts (@box _ ⟨fun t' u => P (.val false u) (τ.set i (some ⟨.arg j, false, t'⟩))⟩) := rf rfl
def sxK (o : Option (Option Sl)) (τ : TSt) (i : Nat) (k v : T) (P : TSt → Prop) : Prop := match o with
  | some (some ⟨.own, false, c⟩) => setG c k v fun c' => P (τ.set i (some ⟨.own, false, c'⟩))
  | some (some ⟨.arg j, false, c⟩) => setG c k v fun c' => P (τ.set i (some ⟨.arg j, false, c'⟩))
  | _ => False
theorem stIx_eq {τ : TSt} {i : Nat} {k v : T} {P : TSt → Prop} : stIx τ i k v P = sxK τ[i]? τ i k v P := rf rfl
theorem sxK_o {τ : TSt} {i : Nat} {c k v : T} {P : TSt → Prop} : sxK (some (some ⟨.own, false, c⟩)) τ i k v P = setG c k v (@box _ ⟨fun c' => P (τ.set i (some ⟨.own, false, c'⟩))⟩) := rf rfl
theorem sxK_a {τ : TSt} {i j : Nat} {c k v : T} {P : TSt → Prop} : sxK (some (some ⟨.arg j, false, c⟩)) τ i k v P = setG c k v (@box _ ⟨fun c' => P (τ.set i (some ⟨.arg j, false, c'⟩))⟩) := rf rfl
def rtK (r : R) (o : Option (Option Sl)) (τ : TSt) (P : R → TSt → Prop) : Prop := match o with
    | some (some ⟨.frz, _, t⟩) => P (.val false t) τ
    | some (some ⟨.own, _, t⟩) => P (.val true t) τ
    | _ => False
theorem ret_val {k : Bool} {t : T} {τ : TSt} {P : R → TSt → Prop} : retR (.val k t) τ P = P (.val k t) τ := rf rfl
theorem ret_var {i : Nat} {τ : TSt} {P : R → TSt → Prop} : retR (.var i) τ P = rtK (.var i) τ[i]? τ P := rf rfl
theorem rtK_f {r : R} {l : Bool} {t : T} {τ : TSt} {P : R → TSt → Prop} : rtK r (some (some ⟨.frz, l, t⟩)) τ P = P (.val false t) τ := rf rfl
theorem rtK_o {r : R} {l : Bool} {t : T} {τ : TSt} {P : R → TSt → Prop} : rtK r (some (some ⟨.own, l, t⟩)) τ P = P (.val true t) τ := rf rfl
theorem ends_rt {as : List Sl} {PR : R → List T → Prop} {r : R} {τ : TSt} : (endsT as PR).rt r τ = retR r τ (@box _ ⟨fun r' τ' => keptA as τ' ∧ PR r' (outA as τ')⟩) := rf rfl
theorem ends_nx {as : List Sl} {PR : R → List T → Prop} {τ : TSt} : (endsT as PR).nx τ = (keptA as τ ∧ PR (.val false .non) (outA as τ)) := rf rfl
section
variable {τ : TSt} {P : R → TSt → Prop} {Pb : Bool → TSt → Prop} {Pl : List T → TSt → Prop} {Pa : List R → TSt → Prop} {Po : Option Int → TSt → Prop} {Px : T → Lk → TSt → Prop} {Pi : List T → Lk → TSt → Prop} {Pg : TSt → Prop}
  {te ta tb tc ti : TTE} {tl : TTL} {tt tu : TTT} {g g' : G2} {c1 : C1} {cn : CN} {t u : TTS} {D : TEnds} {i : Nat} {isL : Bool} {mg : MG} {tx : TTX} {tg : TTG} {tgs : TTGs} {taa : TTA} {S : TSp} {XT : String → TSt → Prop} {lo hi : TTO} {cc : String}
theorem z_v : tv i τ P = ((∃ s, τ[i]? = some (some s)) ∧ P (.var i) τ) := rf rfl
theorem z_k {x : T} : tk x τ P = P (.val false x) τ := rf rfl
theorem z_tf : tf te τ P = te τ (@box _ ⟨fun r τ1 => frzR r τ1 (@box _ ⟨fun u τ2 => P (.val false u) τ2⟩)⟩) := rf rfl
theorem z_nil : tlnil τ Pl = Pl [] τ := rf rfl
theorem z_cons : tlcons te tl τ Pl = te τ (@box _ ⟨fun r τ1 => frzR r τ1 (@box _ ⟨fun t τ2 => tl τ2 (@box _ ⟨fun ts τ3 => Pl (t :: ts) τ3⟩)⟩)⟩) := rf rfl
theorem z_tup : ttTup tl τ P = tl τ (@box _ ⟨fun ts τ1 => ts.length ≤ sizeLine ∧ P (.val false (.tup ts)) τ1⟩) := rf rfl
theorem z_lst : ttLst tl τ P = tl τ (@box _ ⟨fun ts τ1 => ts.length ≤ sizeLine ∧ P (.val true (.lst ts)) τ1⟩) := rf rfl
theorem z_bin : ttBin g ta tb τ P = ta τ (@box _ ⟨fun ra τ1 => tb τ1 (@box _ ⟨fun rb τ2 => g (ra.t τ2) (rb.t τ2) (@box _ ⟨fun k t => P (.val k t) τ2⟩)⟩)⟩) := rf rfl
theorem z_B : ttB te τ Pb = te τ (@box _ ⟨fun r τ1 => blK (r.t τ1) (@box _ ⟨fun b => Pb b τ1⟩)⟩) := rf rfl
theorem z_and : ttAnd tt tu τ Pb = tt τ (@box _ ⟨fun c τ1 => cnd c (@box _ ⟨fun _ => tu τ1 Pb⟩) (@box _ ⟨fun _ => Pb false τ1⟩)⟩) := rf rfl
theorem z_or : ttOr tt tu τ Pb = tt τ (@box _ ⟨fun c τ1 => cnd c (@box _ ⟨fun _ => Pb true τ1⟩) (@box _ ⟨fun _ => tu τ1 Pb⟩)⟩) := rf rfl
theorem z_not : ttNot tt τ Pb = tt τ (@box _ ⟨fun c τ1 => Pb (!c) τ1⟩) := rf rfl
theorem z_if : ttIf tt ta tb τ P = tt τ (@box _ ⟨fun c τ1 => cnd c (@box _ ⟨fun _ => ta τ1 P⟩) (@box _ ⟨fun _ => tb τ1 P⟩)⟩) := rf rfl
theorem z_andV : ttAndV ta tb τ P = ta τ (@box _ ⟨fun r τ1 => blK (r.t τ1) (@box _ ⟨fun b => cnd b (@box _ ⟨fun _ => tb τ1 P⟩) (@box _ ⟨fun _ => P (.val false (.bl false)) τ1⟩)⟩)⟩) := rf rfl
theorem z_orV : ttOrV ta tb τ P = ta τ (@box _ ⟨fun r τ1 => blK (r.t τ1) (@box _ ⟨fun b => cnd b (@box _ ⟨fun _ => P (.val false (.bl true)) τ1⟩) (@box _ ⟨fun _ => tb τ1 P⟩)⟩)⟩) := rf rfl
theorem z_notV : ttNotV ta τ P = ta τ (@box _ ⟨fun r τ1 => blK (r.t τ1) (@box _ ⟨fun b => P (.val false (.bl (!b))) τ1⟩)⟩) := rf rfl
theorem z_chain : ttChain g g' ta tb tc τ P = ta τ (@box _ ⟨fun ra τ1 => tb τ1 (@box _ ⟨fun rb τ2 => g (ra.t τ2) (rb.t τ2) (@box _ ⟨fun _ t => blK t (@box _ ⟨fun b => cnd b (@box _ ⟨fun _ => tc τ2 (@box _ ⟨fun rc τ3 => rb.t τ3 = rb.t τ2 ∧ g' (rb.t τ3) (rc.t τ3) (@box _ ⟨fun k t => P (.val k t) τ3⟩)⟩)⟩) (@box _ ⟨fun _ => P (.val false (.bl false)) τ2⟩)⟩)⟩)⟩)⟩) := by
  unfold ttChain
  refine congrArg (ta τ) (funext fun ra => funext fun τ1 => congrArg (tb τ1) (funext fun rb => funext fun τ2 => congrArg (g (ra.t τ2) (rb.t τ2)) (funext fun k => funext fun t => ?_)))
  cases t with
  | bl b => cases b <;> rfl
  | _ => rfl
theorem z_ix : ttIx ta tb τ P = ta τ (@box _ ⟨fun ra τ1 => tb τ1 (@box _ ⟨fun rb τ2 => ixT (ra.t τ2) (rb.t τ2) (@box _ ⟨fun t => P (.val false t) τ2⟩)⟩)⟩) := rf rfl
theorem z_toN : toN τ Po = Po none τ := rf rfl
theorem z_toS : toS te τ Po = te τ (@box _ ⟨fun r τ1 => inK (r.t τ1) (@box _ ⟨fun i => Po (some i) τ1⟩)⟩) := rf rfl
theorem z_sl : ttSl te lo hi τ P = te τ (@box _ ⟨fun r τ1 => lo τ1 (@box _ ⟨fun l τ2 => hi τ2 (@box _ ⟨fun h τ3 => slT' (r.t τ3) l h (@box _ ⟨fun k t => P (.val k t) τ3⟩)⟩)⟩)⟩) := rf rfl
def mtL (isL : Bool) (t : T) : Prop := match t with
  | .lst _ => isL = true
  | .dct _ _ => isL = false
  | _ => False
theorem mtL_l {b : Bool} {ts : List T} : mtL b (.lst ts) = (b = true) := rf rfl
theorem mtL_d {b : Bool} {ks : List Key} {ts : List T} : mtL b (.dct ks ts) = (b = false) := rf rfl
theorem z_mut : ttMut isL i tl mg τ P = (mtL isL (slT τ i) ∧ (∃ s, τ[i]? = some (some s)) ∧ tl τ (@box _ ⟨fun ts τ1 => mutS τ1 i ts mg P⟩)) := rf rfl
theorem z_d0 : ttDict0 τ P = P (.val true (.dct [] [])) τ := rf rfl
theorem z_c1 : ttC1 c1 te τ P = te τ (@box _ ⟨fun r τ1 => c1 (r.t τ1) (@box _ ⟨fun k t => P (.val k t) τ1⟩)⟩) := rf rfl
theorem z_u : ttU c1 te τ P = te τ (@box _ ⟨fun r τ1 => c1 (r.t τ1) (@box _ ⟨fun k t => P (.val k t) τ1⟩)⟩) := rf rfl
theorem z_cn : ttCn cn tl τ P = tl τ (@box _ ⟨fun ts τ1 => cn ts (@box _ ⟨fun k t => P (.val k t) τ1⟩)⟩) := rf rfl
theorem z_isi : ttIsi cc te τ P = te τ (@box _ ⟨fun r τ1 => opK (isiT cc (r.t τ1)) (@box _ ⟨fun b => P (.val false (.bl b)) τ1⟩)⟩) := rf rfl
theorem z_aN : taNil τ Pa = Pa [] τ := rf rfl
theorem z_aF : taF te taa τ Pa = te τ (@box _ ⟨fun r τ1 => frzR r τ1 (@box _ ⟨fun t τ2 => taa τ2 (@box _ ⟨fun rs τ3 => Pa (.val false t :: rs) τ3⟩)⟩)⟩) := rf rfl
theorem z_aV : taV i taa τ Pa = ((∃ s, τ[i]? = some (some s)) ∧ taa τ (@box _ ⟨fun rs τ3 => Pa (.var i :: rs) τ3⟩)) := rf rfl
theorem z_call : ttCall S XT taa τ P = taa τ (@box _ ⟨fun rs τ1 => varsOk rs = true ∧ S (mkA τ1 0 rs) (@box _ ⟨fun r ts => ts.length = rs.length ∧ putB rs ts τ1 (@box _ ⟨fun τ2 => P r τ2⟩)⟩) (@box _ ⟨fun c ts => ts.length = rs.length ∧ putB rs ts τ1 (@box _ ⟨fun τ2 => XT c τ2⟩)⟩)⟩) := rf rfl
theorem z_next : ttNext D τ = D.nx τ := rf rfl
theorem z_brk : ttBreak D τ = D.bk τ := rf rfl
theorem z_cont : ttCont D τ = D.ct τ := rf rfl
theorem z_seq : ttSeq t u D τ = t (seqD u D) τ := rf rfl
theorem z_drop : ttDrop te D τ = te τ (@box _ ⟨fun _ τ1 => D.nx τ1⟩) := rf rfl
theorem z_ret : ttRet te D τ = te τ (@box _ ⟨fun r τ1 => D.rt r τ1⟩) := rf rfl
theorem z_retN : ttRetN D τ = D.rt (.val false .non) τ := rf rfl
theorem z_ifS : ttIfS tt t u D τ = tt τ (@box _ ⟨fun b τ1 => cnd b (@box _ ⟨fun _ => t D τ1⟩) (@box _ ⟨fun _ => u D τ1⟩)⟩) := rf rfl
theorem z_set : ttSet i te D τ = te τ (@box _ ⟨fun r τ1 => stR r τ1 i D.nx⟩) := rf rfl
theorem z_tgN {x : T} : tgN i x τ Pg = setS τ i ⟨.frz, false, x⟩ Pg := rf rfl
theorem z_gsN : tgsNil [] τ Pg = Pg τ := rf rfl
theorem z_gsC {x : T} {xs : List T} : tgsCons tg tgs (x :: xs) τ Pg = tg x τ (@box _ ⟨fun τ1 => tgs xs τ1 Pg⟩) := rf rfl
theorem z_tgT {n : Nat} {xs : List T} : tgTup n tgs (.tup xs) τ Pg = (xs.length = n ∧ tgs xs τ Pg) := rf rfl
theorem z_asg : ttAsg te tg D τ = te τ (@box _ ⟨fun r τ1 => frzR r τ1 (@box _ ⟨fun t τ2 => tg t τ2 D.nx⟩)⟩) := rf rfl
theorem z_setIx : ttSetIx i te ti D τ = te τ (@box _ ⟨fun r τ1 => frzR r τ1 (@box _ ⟨fun t τ2 => (∃ s, τ2[i]? = some (some s)) ∧ ti τ2 (@box _ ⟨fun ri τ3 => stIx τ3 i (ri.t τ3) t D.nx⟩)⟩)⟩) := rf rfl
theorem z_sf : sf te τ Px = te τ (@box _ ⟨fun r τ1 => frzR r τ1 (@box _ ⟨fun t τ2 => Px t none τ2⟩)⟩) := rf rfl
theorem z_seqs : tiSeq tx τ Pi = tx τ (@box _ ⟨fun t u τ1 => seqI t (@box _ ⟨fun ts => Pi ts u τ1⟩)⟩) := rf rfl
theorem z_rev : tiRev tx τ Pi = tx τ (@box _ ⟨fun t u τ1 => revI t (@box _ ⟨fun ts => Pi ts u τ1⟩)⟩) := rf rfl
theorem z_zip : tiZip tx te τ Pi = tx τ (@box _ ⟨fun t u τ1 => te τ1 (@box _ ⟨fun r τ2 => frzR r τ2 (@box _ ⟨fun t2 τ3 => zipI t t2 (@box _ ⟨fun ts => Pi ts u τ3⟩)⟩)⟩)⟩) := rf rfl
theorem z_rng1 : tiRng1 tl τ Pi = tl τ (@box _ ⟨fun ts τ1 => r1K ts τ1 Pi⟩) := rf rfl
theorem z_rng2 : tiRng2 tl τ Pi = tl τ (@box _ ⟨fun ts τ1 => r2K ts τ1 Pi⟩) := rf rfl
theorem z_yes : ttYes τ Pb = Pb true τ := rf rfl
end
def slK2 (o : Option (Option Sl)) : T := match o with
  | some (some s) => s.t
  | _ => .non
theorem y_sl2 {s : Sl} : slK2 (some (some s)) = s.t := rf rfl
def mkK (j : Nat) (o : Option (Option Sl)) : Sl := match o with
    | some (some ⟨.frz, _, t⟩) => ⟨.frz, false, t⟩
    | some (some ⟨_, _, t⟩) => ⟨.arg j, false, t⟩
    | _ => ⟨.frz, false, .non⟩
theorem y_mkf {j : Nat} {l : Bool} {t : T} : mkK j (some (some ⟨.frz, l, t⟩)) = ⟨.frz, false, t⟩ := rf rfl
theorem y_mko {j : Nat} {l : Bool} {t : T} : mkK j (some (some ⟨.own, l, t⟩)) = ⟨.arg j, false, t⟩ := rf rfl
theorem y_mka {j i : Nat} {l : Bool} {t : T} : mkK j (some (some ⟨.arg i, l, t⟩)) = ⟨.arg j, false, t⟩ := rf rfl
def pbK (o : Option (Option Sl)) (i : Nat) (rs : List R) (t : T) (ts : List T) (τ : TSt) (P : TSt → Prop) : Prop := match o with
    | some (some ⟨.frz, _, _⟩) => putB rs ts τ P
    | some (some ⟨k, false, _⟩) => putB rs ts (τ.set i (some ⟨k, false, t⟩)) P
    | some (some ⟨_, true, u⟩) => u = t ∧ putB rs ts τ P
    | _ => False
def vne (i : Nat) (r : R) : Bool := match r with | .var j => !(i == j) | _ => true
def kpK (k : Kd) (j : Nat) (o : Option (Option Sl)) : Prop := match k with
    | .frz => True
    | _ => match o with
      | some (some ⟨.arg m, _, _⟩) => m = j
      | _ => False
def lckK (o : Option (Option Sl)) (l : Bool) (i : Nat) (τ : TSt) : TSt := match o with
  | some (some s) => τ.set i (some ⟨s.k, l, s.t⟩)
  | _ => τ
def unK (o : Option (Option Sl)) (i : Nat) (τ2 : TSt) : TSt := match o with
    | some (some s) => lckT s.l i τ2
    | _ => τ2
section
variable {τ : TSt} {i j m b : Nat} {k : Bool} {t x u : T} {rs : List R} {ts : List T} {as : List Sl} {s : Sl} {l : Bool} {P : TSt → Prop}
theorem y_tv : (R.val k t).t τ = t := rf rfl
theorem y_tn : (R.var i).t τ = slK2 τ[i]? := rf rfl
theorem y_slT : slT τ i = slK2 τ[i]? := rf rfl
theorem y_set {s : Sl} : setS τ i s P = (canS τ[i]? = true ∧ P (τ.set i (some s))) := rf rfl
theorem y_mkN : mkA τ j [] = [] := rf rfl
theorem y_mkV : mkA τ j (.val k t :: rs) = ⟨.frz, false, t⟩ :: mkA τ (j + 1) rs := rf rfl
theorem y_mkn : mkA τ j (.var i :: rs) = mkK j τ[i]? :: mkA τ (j + 1) rs := rf rfl
theorem y_pbV : putB (.val k t :: rs) (x :: ts) τ P = putB rs ts τ P := rf rfl
theorem y_pbn : putB (.var i :: rs) (x :: ts) τ P = pbK τ[i]? i rs x ts τ P := rf rfl
theorem y_pbN : putB [] ts τ P = P τ := rf (by unfold putB; rfl)
theorem y_pbf : pbK (some (some ⟨.frz, l, u⟩)) i rs x ts τ P = putB rs ts τ P := rf rfl
theorem y_pbo : pbK (some (some ⟨.own, false, u⟩)) i rs x ts τ P = putB rs ts (τ.set i (some ⟨.own, false, x⟩)) P := rf rfl
theorem y_pba : pbK (some (some ⟨.arg j, false, u⟩)) i rs x ts τ P = putB rs ts (τ.set i (some ⟨.arg j, false, x⟩)) P := rf rfl
theorem y_pbl : pbK (some (some ⟨.own, true, u⟩)) i rs x ts τ P = (u = x ∧ putB rs ts τ P) := rf rfl
theorem y_pbm : pbK (some (some ⟨.arg j, true, u⟩)) i rs x ts τ P = (u = x ∧ putB rs ts τ P) := rf rfl
theorem y_voN : varsOk [] = true := rf rfl
theorem y_voV : varsOk (.val k t :: rs) = varsOk rs := rf rfl
theorem y_von : varsOk (.var i :: rs) = ((rs.all (vne i)) && varsOk rs) := rf rfl
theorem y_vnV : vne i (.val k t) = true := rf rfl
theorem y_vnn : vne i (.var j) = !(i == j) := rf rfl
theorem y_out : outA as τ = outN τ 0 as := rf rfl
theorem y_onN : outN τ j [] = [] := rf (by unfold outN; rfl)
theorem y_onC : outN τ j (s :: as) = slT τ j :: outN τ (j + 1) as := rf (by conv => lhs; unfold outN)
theorem y_st : startT m as = as.map some ++ List.replicate (m - as.length) none := rf rfl
theorem y_kp : keptA as τ = keptN τ 0 as := rf rfl
theorem y_kpN : keptN τ j [] = True := rf (by unfold keptN; rfl)
theorem y_kpC : keptN τ j (s :: as) = (kpK s.k j τ[j]? ∧ keptN τ (j + 1) as) := by
  conv => lhs; unfold keptN
  unfold kpK
  cases s.k <;> rfl
theorem y_kpf {o : Option (Option Sl)} : kpK .frz j o = True := rf rfl
theorem y_kpa : kpK (.arg i) j (some (some ⟨.arg m, l, t⟩)) = (m = j) := rf rfl
theorem y_lkN : lck none τ = τ := rf rfl
theorem y_lkS : lck (some i) τ = lckK τ[i]? true i τ := rf rfl
theorem y_lkT : lckT l i τ = lckK τ[i]? l i τ := rf rfl
theorem y_lks : lckK (some (some s)) l i τ = τ.set i (some ⟨s.k, l, s.t⟩) := rf rfl
theorem y_unN {τ1 : TSt} : unl none τ1 τ = τ := rf rfl
theorem y_unS {τ1 : TSt} : unl (some i) τ1 τ = unK τ1[i]? i τ := rf rfl
theorem y_uns : unK (some (some s)) i τ = lckT s.l i τ := rf rfl
theorem y_wN : wipeT τ [] = τ := rf (by unfold wipeT; rfl)
theorem y_bN {τ1 : TSt} : backT τ τ1 [] = τ1 := rf (by unfold backT; rfl)
theorem y_bC {τ1 : TSt} {v : Nat} {vs : List Nat} : backT τ τ1 (v :: vs) = (backT τ τ1 vs).set v ((τ[v]?).getD none) := rf (by conv => lhs; unfold backT)
theorem y_wC {v : Nat} {vs : List Nat} : wipeT τ (v :: vs) = (wipeT τ vs).set v none := rf (by conv => lhs; unfold wipeT)
end
def forT (g : TTG) (tb : TTS) (D : TEnds) (ts : List T) (u : Lk) (τ1 : TSt) : Prop := ∃ Pv : Nat → TSt → Prop, Pv 0 (lck u τ1) ∧
  (∀ i t τ2, ts[i]? = some t → Pv i τ2 → g t τ2 fun τ3 => tb { D with nx := Pv (i + 1), ct := Pv (i + 1), bk := fun τ4 => D.nx (unl u τ1 τ4) } τ3) ∧ ∀ τ2, Pv ts.length τ2 → D.nx (unl u τ1 τ2)
theorem ttFor_eq {ti : TTI} {g : TTG} {tb : TTS} {D : TEnds} {τ : TSt} : ttFor ti g tb D τ = ti τ (@box _ ⟨fun ts u τ1 => forT g tb D ts u τ1⟩) := rf rfl
theorem forT_p {α : Type} {ts : List T} {u : Lk} {τ1 : TSt} {g : TTG} {tb : TTS} {D : TEnds} (st : α → TSt) (I : Nat → α → Prop) (a0 : α) (e0 : lck u τ1 = st a0) (h0 : I 0 a0)
    (h : ∀ i t a, ts[i]? = some t → I i a → g t (st a) (@box _ ⟨fun τ3 => tb (loopD (fun τ' => ∃ a', τ' = st a' ∧ I (i + 1) a') (@box _ ⟨fun τ4 => D.nx (unl u τ1 τ4)⟩) D) τ3⟩))
    (hd : ∀ a, I ts.length a → D.nx (unl u τ1 (st a))) : forT g tb D ts u τ1 := for_p st I a0 e0 h0 h hd
def lcT (g : TTG) (tt : TTT) (te : TTE) (vs : List Nat) (P : R → TSt → Prop) (ts : List T) (u : Lk) (τ1 : TSt) : Prop := (∀ v ∈ vs, frzAt (lck u τ1) v) ∧ ∃ Pv : Nat → List T → TSt → Prop, Pv 0 [] (wipeT (lck u τ1) vs) ∧
  (∀ i t acc τ2, ts[i]? = some t → Pv i acc τ2 → g t τ2 fun τ3 => tt τ3 fun b τ4 =>
    if b = true then te τ4 fun r τ5 => frzR r τ5 fun y τ6 => acc.length < sizeLine ∧ Pv (i + 1) (acc ++ [y]) (wipeT τ6 vs) else Pv (i + 1) acc (wipeT τ4 vs)) ∧
  ∀ acc τ2, Pv ts.length acc τ2 → P (.val true (.lst acc)) (unl u τ1 (backT (lck u τ1) τ2 vs))
theorem ttLc_eq {ti : TTI} {g : TTG} {tt : TTT} {te : TTE} {vs : List Nat} {τ : TSt} {P : R → TSt → Prop} : ttLc ti g tt te vs τ P = ti τ (@box _ ⟨fun ts u τ1 => lcT g tt te vs P ts u τ1⟩) := rf rfl
theorem frzAt_none {τ : TSt} {i : Nat} (h : τ[i]? = some none) : frzAt τ i := by unfold frzAt; rw [h]; trivial
theorem lcT_m {ts : List T} {u : Lk} {τ1 : TSt} {g : TTG} {te : TTE} {vs : List Nat} {P : R → TSt → Prop} (f : T → T) (hf : ∀ v ∈ vs, frzAt (lck u τ1) v) (hl : ts.length ≤ sizeLine)
    (h : ∀ t ∈ ts, g t (wipeT (lck u τ1) vs) (@box _ ⟨fun τ3 => te τ3 (@box _ ⟨fun r τ5 => frzR r τ5 (@box _ ⟨fun y τ6 => f t = y ∧ wipeT τ6 vs = wipeT (lck u τ1) vs⟩)⟩)⟩))
    (hd : P (.val true (.lst (ts.map f))) (unl u τ1 (backT (lck u τ1) (wipeT (lck u τ1) vs) vs))) : lcT g ttYes te vs P ts u τ1 :=
  ⟨hf, lc_map (Q := fun acc τ2 => P (.val true (.lst acc)) (unl u τ1 (backT (lck u τ1) τ2 vs))) f hl h hd⟩
theorem intsT_map {ns : List Int} {k : List Int → Prop} : intsT (ns.map T.int) k = k ns := by
  apply propext
  constructor
  · rintro ⟨ms, e, h⟩
    rw [map_int_inj.mp e]
    exact h
  · exact fun h => ⟨ns, rfl, h⟩
theorem blsT_map {ns : List Bool} {k : List Bool → Prop} : blsT (ns.map T.bl) k = k ns := by
  apply propext
  constructor
  · rintro ⟨ms, e, h⟩
    rw [map_bl_inj.mp e]
    exact h
  · exact fun h => ⟨ns, rfl, h⟩
/-- while, by a family of states -/
theorem while_b {α : Type} {c : TTT} {tb : TTS} {D : TEnds} {τ : TSt} (st : α → TSt) (I : α → Prop) (μ : α → Nat) (a0 : α) (e0 : τ = st a0) (h0 : I a0)
    (h : ∀ a, I a → c (st a) (@box _ ⟨fun b τ1 => cnd b (@box _ ⟨fun _ => tb (loopD (fun τ' => ∃ a', τ' = st a' ∧ I a' ∧ μ a' < μ a) D.nx D) τ1⟩) (@box _ ⟨fun _ => D.nx τ1⟩)⟩)) : ttWhile c tb D τ := while_p st I μ a0 e0 h0 h
/-- a slot that holds nothing, or an owned value -/
def ofO (o : Option T) : Option Sl := o.map fun t => ⟨.own, false, t⟩
theorem canS_ofO {o : Option T} : canS (some (ofO o)) = true := by cases o <;> rfl
theorem ofO_none : ofO none = none := rf rfl
theorem ofO_some {t : T} : ofO (some t) = some ⟨.own, false, t⟩ := rf rfl
/-- a slot that holds nothing, a frozen or an owned value -/
def ofE (o : Option (Bool × T)) : Option Sl := o.map fun p => ⟨if p.1 = true then .own else .frz, false, p.2⟩
theorem canS_ofE {o : Option (Bool × T)} : canS (some (ofE o)) = true := by
  rcases o with _ | ⟨b, t⟩
  · rfl
  · cases b <;> rfl
theorem ofE_none : ofE none = none := rfl
theorem ofE_f {t : T} : ofE (some (false, t)) = some ⟨.frz, false, t⟩ := rfl
theorem ofE_o {t : T} : ofE (some (true, t)) = some ⟨.own, false, t⟩ := rfl
theorem atI_4 {α : Type} {x y z u v : α} {xs : List α} : atI (x :: y :: z :: u :: v :: xs) 4 = some v := atI_nat (j := 4) rfl
theorem atI_5 {α : Type} {x y z u v w : α} {xs : List α} : atI (x :: y :: z :: u :: v :: w :: xs) 5 = some w := atI_nat (j := 5) rfl
theorem isi_int_non  : isiT "int" .non = some false := rf rfl
theorem isi_int_bl {b : Bool} : isiT "int" (.bl b) = some true := rf rfl
theorem isi_int_int {i : Int} : isiT "int" (.int i) = some true := rf rfl
theorem isi_int_str {x : Str} : isiT "int" (.str x) = some false := rf rfl
theorem isi_int_tup {ts : List T} : isiT "int" (.tup ts) = some false := rf rfl
theorem isi_int_lst {ts : List T} : isiT "int" (.lst ts) = some false := rf rfl
theorem isi_bool_non  : isiT "bool" .non = some false := rf rfl
theorem isi_bool_bl {b : Bool} : isiT "bool" (.bl b) = some true := rf rfl
theorem isi_bool_int {i : Int} : isiT "bool" (.int i) = some false := rf rfl
theorem isi_bool_str {x : Str} : isiT "bool" (.str x) = some false := rf rfl
theorem isi_bool_tup {ts : List T} : isiT "bool" (.tup ts) = some false := rf rfl
theorem isi_bool_lst {ts : List T} : isiT "bool" (.lst ts) = some false := rf rfl
theorem isi_str_non  : isiT "str" .non = some false := rf rfl
theorem isi_str_bl {b : Bool} : isiT "str" (.bl b) = some false := rf rfl
theorem isi_str_int {i : Int} : isiT "str" (.int i) = some false := rf rfl
theorem isi_str_str {x : Str} : isiT "str" (.str x) = some true := rf rfl
theorem isi_str_tup {ts : List T} : isiT "str" (.tup ts) = some false := rf rfl
theorem isi_str_lst {ts : List T} : isiT "str" (.lst ts) = some false := rf rfl
theorem isi_tuple_non  : isiT "tuple" .non = some false := rf rfl
theorem isi_tuple_bl {b : Bool} : isiT "tuple" (.bl b) = some false := rf rfl
theorem isi_tuple_int {i : Int} : isiT "tuple" (.int i) = some false := rf rfl
theorem isi_tuple_str {x : Str} : isiT "tuple" (.str x) = some false := rf rfl
theorem isi_tuple_tup {ts : List T} : isiT "tuple" (.tup ts) = some true := rf rfl
theorem isi_tuple_lst {ts : List T} : isiT "tuple" (.lst ts) = some false := rf rfl
theorem isi_list_non  : isiT "list" .non = some false := rf rfl
theorem isi_list_bl {b : Bool} : isiT "list" (.bl b) = some false := rf rfl
theorem isi_list_int {i : Int} : isiT "list" (.int i) = some false := rf rfl
theorem isi_list_str {x : Str} : isiT "list" (.str x) = some false := rf rfl
theorem isi_list_tup {ts : List T} : isiT "list" (.tup ts) = some false := rf rfl
theorem isi_list_lst {ts : List T} : isiT "list" (.lst ts) = some true := rf rfl
theorem q_add_0 {i j : Int}{k : Bool → T → Prop} : (addT (.int i) (.int j) k) = (k false (.int (i + j))) := rf rfl
theorem q_add_1 {x y : Str}{k : Bool → T → Prop} : (addT (.str x) (.str y) k) = (x.length + y.length ≤ sizeLine ∧ k false (.str (x ++ y))) := rf rfl
theorem q_add_2 {xs ys : List T}{k : Bool → T → Prop} : (addT (.lst xs) (.lst ys) k) = (xs.length + ys.length ≤ sizeLine ∧ k true (.lst (xs ++ ys))) := rf rfl
theorem q_add_3 {xs ys : List T}{k : Bool → T → Prop} : (addT (.tup xs) (.tup ys) k) = (xs.length + ys.length ≤ sizeLine ∧ k false (.tup (xs ++ ys))) := rf rfl
theorem q_sub_0 {i j : Int}{k : Bool → T → Prop} : (subT (.int i) (.int j) k) = (True ∧ k false (.int (i - j))) := rf rfl
theorem q_mul_0 {i j : Int}{k : Bool → T → Prop} : (mulT (.int i) (.int j) k) = (MulOk i j ∧ k false (.int (i * j))) := rf rfl
theorem q_mul_1 {xs : List T} {j : Int}{k : Bool → T → Prop} : (mulT (.lst xs) (.int j) k) = ((-(2 ^ 63) ≤ j ∧ j < 2 ^ 63 ∧ xs.length * j.toNat ≤ sizeLine) ∧ k true (.lst (List.replicate j.toNat xs).flatten)) := rf rfl
theorem q_fdiv_0 {i j : Int}{k : Bool → T → Prop} : (fdivT (.int i) (.int j) k) = ((0 < j ∧ j.natAbs.log2 < 9000) ∧ k false (.int (i / j))) := rf rfl
theorem q_mod_0 {i j : Int}{k : Bool → T → Prop} : (modT (.int i) (.int j) k) = (0 < j ∧ k false (.int (i % j))) := rf rfl
theorem q_pow_0 {i j : Int}{k : Bool → T → Prop} : (powT (.int i) (.int j) k) = ((0 ≤ j ∧ j ≤ 1000000 ∧ i.natAbs < 2 ^ 64) ∧ k false (.int (i ^ j.toNat))) := rf rfl
theorem q_shl_0 {i j : Int}{k : Bool → T → Prop} : (shlT (.int i) (.int j) k) = ((0 ≤ j ∧ j ≤ 1000000 ∧ i.natAbs < 2 ^ 64) ∧ k false (.int (i * 2 ^ j.toNat))) := rf rfl
theorem q_lt_0 {i j : Int}{k : Bool → T → Prop} : (ltT (.int i) (.int j) k) = (k false (.bl (decide (i < j)))) := rf rfl
theorem q_le_0 {i j : Int}{k : Bool → T → Prop} : (leT (.int i) (.int j) k) = (k false (.bl (decide (i ≤ j)))) := rf rfl
theorem q_gt_0 {i j : Int}{k : Bool → T → Prop} : (gtT (.int i) (.int j) k) = (k false (.bl (decide (j < i)))) := rf rfl
theorem q_ge_0 {i j : Int}{k : Bool → T → Prop} : (geT (.int i) (.int j) k) = (k false (.bl (decide (j ≤ i)))) := rf rfl
theorem q_eq_0 {i j : Int}{k : Bool → T → Prop} : (eqT (.int i) (.int j) k) = (k false (.bl (decide (i = j)))) := by unfold eqT; rw [eo_int, eo_int, ev_int]; simp
theorem q_ne_0 {i j : Int}{k : Bool → T → Prop} : (neT (.int i) (.int j) k) = (k false (.bl (!decide (i = j)))) := by unfold neT; rw [eo_int, eo_int, ev_int]; simp
theorem q_eq_1 {i j : Bool}{k : Bool → T → Prop} : (eqT (.bl i) (.bl j) k) = (k false (.bl (decide (i = j)))) := by unfold eqT; rw [eo_bl, eo_bl, ev_bl]; simp
theorem q_ne_1 {i j : Bool}{k : Bool → T → Prop} : (neT (.bl i) (.bl j) k) = (k false (.bl (!decide (i = j)))) := by unfold neT; rw [eo_bl, eo_bl, ev_bl]; simp
theorem q_eq_2 {ns ms : List Int}{k : Bool → T → Prop} : (eqT (.lst (ns.map T.int)) (.lst (ms.map T.int)) k) = (k false (.bl (decide (ns = ms)))) := by unfold eqT; rw [eo_ints, eo_ints, ev_ints]; simp
theorem q_ne_2 {ns ms : List Int}{k : Bool → T → Prop} : (neT (.lst (ns.map T.int)) (.lst (ms.map T.int)) k) = (k false (.bl (!decide (ns = ms)))) := by unfold neT; rw [eo_ints, eo_ints, ev_ints]; simp
theorem q_eq_3 {ns ms : List Int}{k : Bool → T → Prop} : (eqT (.tup (ns.map T.int)) (.tup (ms.map T.int)) k) = (k false (.bl (decide (ns = ms)))) := by unfold eqT; rw [eo_intsT, eo_intsT, ev_intsT]; simp
theorem q_ne_3 {ns ms : List Int}{k : Bool → T → Prop} : (neT (.tup (ns.map T.int)) (.tup (ms.map T.int)) k) = (k false (.bl (!decide (ns = ms)))) := by unfold neT; rw [eo_intsT, eo_intsT, ev_intsT]; simp
theorem q_is_0 {b : Bool}{o : Bool}{k : Bool → T → Prop} : (isT o (.bl b) .non k) = (k false (.bl o)) := by cases o <;> rfl
theorem q_is_1 {o : Bool}{k : Bool → T → Prop} : (isT o .non .non k) = (k false (.bl (!o))) := by cases o <;> rfl
theorem q_is_2 {i : Int}{o : Bool}{k : Bool → T → Prop} : (isT o (.int i) .non k) = (k false (.bl o)) := by cases o <;> rfl
theorem q_is_3 {x : Str}{o : Bool}{k : Bool → T → Prop} : (isT o (.str x) .non k) = (k false (.bl o)) := by cases o <;> rfl
theorem q_is_4 {xs : List T}{o : Bool}{k : Bool → T → Prop} : (isT o (.tup xs) .non k) = (k false (.bl o)) := by cases o <;> rfl
theorem q_is_5 {xs : List T}{o : Bool}{k : Bool → T → Prop} : (isT o (.lst xs) .non k) = (k false (.bl o)) := by cases o <;> rfl
theorem q_is_6 {a b o : Bool}{k : Bool → T → Prop} : (isT o (.bl a) (.bl b) k) = (k false (.bl (o != decide (a = b)))) := rf rfl
theorem q_in_0 {ns : List Int} {n : Int} {o : Bool}{k : Bool → T → Prop} : (inT o (.int n) (.lst (ns.map T.int)) k) = (k false (.bl (o != decide (n ∈ ns)))) := by unfold inT; simp only [eo_int, eo_ints, any_int]; simp
theorem q_in_1 {ns : List Int} {n : Int} {o : Bool}{k : Bool → T → Prop} : (inT o (.int n) (.tup (ns.map T.int)) k) = (k false (.bl (o != decide (n ∈ ns)))) := by unfold inT; simp only [eo_int, eo_intsT, any_int]; simp
theorem q_in_2 {ks : List Key} {ts : List T} {n : Int} {o : Bool}{k : Bool → T → Prop} : (inT o (.int n) (.dct ks ts) k) = (k false (.bl (o != kMem (Sum.inl n) ks))) := rf rfl
theorem q_ix_0 {ts : List T}{i : Int}{k : T → Prop} : (ixT (.lst ts) (.int i) k) = (∃ t, atI ts i = some t ∧ k t) := rf rfl
theorem q_ix_1 {ts : List T}{i : Int}{k : T → Prop} : (ixT (.tup ts) (.int i) k) = (∃ t, atI ts i = some t ∧ k t) := rf rfl
theorem q_ix_2 {ns : List Int}{i : Int}{k : T → Prop} : (ixT (.scr ns) (.int i) k) = (∃ n, atI ns i = some n ∧ k (.int n)) := rf rfl
theorem q_ix_3 {z : Str}{i : Int}{k : T → Prop} : (ixT (.str z) (.int i) k) = (z.length ≤ sizeLine ∧ ∃ c, atI z.cps.toList i = some c ∧ k (.str ⟨#[c]⟩)) := rf rfl
theorem q_sl_0 {ts : List T}{lo hi : Option Int}{k : Bool → T → Prop} : (slT' (.lst ts) lo hi k) = (k true (.lst (cutT ts lo hi))) := rf rfl
theorem q_sl_1 {ts : List T}{lo hi : Option Int}{k : Bool → T → Prop} : (slT' (.tup ts) lo hi k) = (k false (.tup (cutT ts lo hi))) := rf rfl
theorem q_sl_2 {ns : List Int}{lo hi : Option Int}{k : Bool → T → Prop} : (slT' (.scr ns) lo hi k) = (k true (.lst (cutT (ns.map T.int) lo hi))) := rf rfl
theorem q_sl_3 {z : Str}{lo hi : Option Int}{k : Bool → T → Prop} : (slT' (.str z) lo hi k) = (z.length ≤ sizeLine ∧ k false (.str (cutS z lo hi))) := rf rfl
theorem q_len_0 {ts : List T}{k : Bool → T → Prop} : (lenT (.lst ts) k) = (k false (.int ts.length)) := rf rfl
theorem q_len_1 {ts : List T}{k : Bool → T → Prop} : (lenT (.tup ts) k) = (k false (.int ts.length)) := rf rfl
theorem q_len_2 {ns : List Int}{k : Bool → T → Prop} : (lenT (.scr ns) k) = (k false (.int ns.length)) := rf rfl
theorem q_len_3 {z : Str}{k : Bool → T → Prop} : (lenT (.str z) k) = (z.length ≤ sizeLine ∧ k false (.int z.length)) := rf rfl
theorem q_list_0 {ts : List T}{k : Bool → T → Prop} : (listT (.lst ts) k) = (k true (.lst ts)) := rf rfl
theorem q_list_1 {ts : List T}{k : Bool → T → Prop} : (listT (.tup ts) k) = (k true (.lst ts)) := rf rfl
theorem q_list_2 {ns : List Int}{k : Bool → T → Prop} : (listT (.scr ns) k) = (k true (.lst (ns.map T.int))) := rf rfl
theorem q_tuple_0 {ts : List T}{k : Bool → T → Prop} : (tupleT (.lst ts) k) = (k false (.tup ts)) := rf rfl
theorem q_tuple_1 {ts : List T}{k : Bool → T → Prop} : (tupleT (.tup ts) k) = (k false (.tup ts)) := rf rfl
theorem q_tuple_2 {ns : List Int}{k : Bool → T → Prop} : (tupleT (.scr ns) k) = (k false (.tup (ns.map T.int))) := rf rfl
theorem q_int_0 {i : Int}{k : Bool → T → Prop} : (intC (.int i) k) = (k false (.int i)) := rf rfl
theorem q_int_1 {b : Bool}{k : Bool → T → Prop} : (intC (.bl b) k) = (k false (.int (TL.b2i b))) := rf rfl
theorem q_sum_0 {ts : List T}{k : Bool → T → Prop} : (sumT (.lst ts) k) = (intsT ts fun ns => k false (.int ns.sum)) := rf rfl
theorem q_all_0 {ts : List T}{k : Bool → T → Prop} : (allT (.lst ts) k) = (blsT ts fun bs => k false (.bl (bs.all _root_.id))) := rf rfl
theorem q_any_0 {ts : List T}{k : Bool → T → Prop} : (anyT (.lst ts) k) = (blsT ts fun bs => k false (.bl (bs.any _root_.id))) := rf rfl
theorem q_sorted_0 {ts : List T}{k : Bool → T → Prop} : (sortedT (.lst ts) k) = (intsT ts fun ns => k true (.lst ((srt ns).map T.int))) := rf rfl
theorem q_max2_0 {i j : Int}{k : Bool → T → Prop} : (max2T [.int i, .int j] k) = (k false (.int (if j > i then j else i))) := rf rfl
theorem q_min2_0 {i j : Int}{k : Bool → T → Prop} : (min2T [.int i, .int j] k) = (k false (.int (if j < i then j else i))) := rf rfl
theorem q_neg_0 {i : Int}{k : Bool → T → Prop} : (negT (.int i) k) = (k false (.int (-i))) := rf rfl
theorem q_append_0 {us : List T}{x : T}{k : T → T → Prop} : (appendG (.lst us) [x] k) = (us.length < sizeLine ∧ k (.lst (us ++ [x])) .non) := rf rfl
theorem q_extend_0 {us xs : List T}{k : T → T → Prop} : (extendG (.lst us) [.lst xs] k) = (us.length + xs.length ≤ sizeLine ∧ k (.lst (us ++ xs)) .non) := rf rfl
theorem q_insert_0 {us : List T}{x : T}{i : Int}{k : T → T → Prop} : (insertG (.lst us) [.int i, x] k) = ((us.length < sizeLine ∧ 0 ≤ i ∧ i < 2 ^ 63) ∧ k (.lst (us.take i.toNat ++ [x] ++ us.drop i.toNat)) .non) := rf rfl
theorem q_seq_0 {ts : List T}{k : List T → Prop} : (seqI (.lst ts) k) = (k ts) := rf rfl
theorem q_seq_1 {ts : List T}{k : List T → Prop} : (seqI (.tup ts) k) = (k ts) := rf rfl
theorem q_seq_2 {ns : List Int}{k : List T → Prop} : (seqI (.scr ns) k) = (k (ns.map T.int)) := rf rfl
theorem q_rev_0 {ts : List T}{k : List T → Prop} : (revI (.lst ts) k) = (k ts.reverse) := rf rfl
theorem q_rev_1 {ts : List T}{k : List T → Prop} : (revI (.tup ts) k) = (k ts.reverse) := rf rfl
theorem q_zip_0 {xs ys : List T}{k : List T → Prop} : (zipI (.lst xs) (.lst ys) k) = (k (List.zipWith (fun x y => T.tup [x, y]) xs ys)) := rf rfl
theorem q_zip_1 {xs ys : List T}{k : List T → Prop} : (zipI (.tup xs) (.tup ys) k) = (k (List.zipWith (fun x y => T.tup [x, y]) xs ys)) := rf rfl
theorem q_setG_0 {ts : List T}{i : Int}{v : T}{k : T → Prop} : (setG (.lst ts) (.int i) v k) = (∃ j, ixN ts.length i = some j ∧ k (.lst (ts.set j v))) := rf rfl
theorem q_setG_1 {ks : List Key}{ts : List T}{i : Int}{v : T}{k : T → Prop} : (setG (.dct ks ts) (.int i) v k) = (ks.length < sizeLine ∧ k (.dct (dPutK ks (Sum.inl i)) (dPutV ks ts (Sum.inl i) v))) := by simp [setG, keyT]
end TL

namespace TL
open PySem L2
theorem _root_.L2.Room.units65 {k : Nat} {A : Around} (r : Room k A) : A.units + 65 < cLine := by have := r.un; omega
def cls0 : String → Addr := fun _ => 0
/-- the law's own call -/
theorem law_sp {K : PySem.W.Frag} {cls : String → Addr} {S : TSp} {E : XK} (H : Hp) (a : Addr) (ns : List Int) (hl : ns.length ≤ 63) (ho : Only H) (hS : SqL K H a (ns.map V.int))
    (h : S [⟨.frz, false, .scr ns⟩] (fun r _ => r = .val false (.bl true)) fun _ _ => False) : liftSp K cls S [.ref a] H (fun v _ => v = .bl true) E := by
  have rp : Rep K H (.scr ns) (.ref a) := ⟨a, rfl, hS, Nat.le_trans hl (by decide)⟩
  have one : ∀ {j : Nat} {s : Sl}, ([⟨.frz, false, .scr ns⟩] : List Sl)[j]? = some s → j = 0 ∧ s = ⟨.frz, false, .scr ns⟩ := fun {j s} e => by
    cases j with
    | zero => cases e; exact ⟨rfl, rfl⟩
    | succ j => simp at e
  refine ⟨H, _, _, _, ⟨fun _ _ e => e, rfl, fun j s e => ?_, fun j s v e1 e2 hk => ?_, fun j s v e1 e2 hk => ?_, fun i j b e1 e2 => ?_⟩, h, fun r ts F' H' v hr _ rc => ?_, fun _ _ _ _ h _ => h.elim⟩
  · obtain ⟨rfl, rfl⟩ := one e
    rfl
  · obtain ⟨rfl, rfl⟩ := one e1
    cases e2
    exact rp
  · obtain ⟨rfl, rfl⟩ := one e1
    exact absurd rfl hk
  · cases i with
    | zero => cases e1
    | succ i => simp [argA] at e1
  · subst hr
    exact rc
/-- a comprehension whose turns change what stands, by a family of states -/
theorem lcT_f {α : Type} {ts : List T} {u : Lk} {τ1 : TSt} {g : TTG} {tt : TTT} {te : TTE} {vs : List Nat} {P : R → TSt → Prop} (st : α → TSt) (I : Nat → List T → α → Prop) (a0 : α) (hf : ∀ v ∈ vs, frzAt (lck u τ1) v) (e0 : wipeT (lck u τ1) vs = st a0) (h0 : I 0 [] a0)
    (h : ∀ i t acc a, ts[i]? = some t → I i acc a → g t (st a) (@box _ ⟨fun τ3 => tt τ3 (@box _ ⟨fun b τ4 => cnd b (@box _ ⟨fun _ => te τ4 (@box _ ⟨fun r τ5 => frzR r τ5 (@box _ ⟨fun y τ6 => acc.length < sizeLine ∧ ∃ a', wipeT τ6 vs = st a' ∧ I (i + 1) (acc ++ [y]) a'⟩)⟩)⟩) (@box _ ⟨fun _ => ∃ a', wipeT τ4 vs = st a' ∧ I (i + 1) acc a'⟩)⟩)⟩))
    (hd : ∀ acc a, I ts.length acc a → P (.val true (.lst acc)) (unl u τ1 (backT (lck u τ1) (st a) vs))) : lcT g tt te vs P ts u τ1 :=
  ⟨hf, fun i acc τ => ∃ a, τ = st a ∧ I i acc a, ⟨a0, e0, h0⟩, fun i t acc τ2 ht ⟨a, e, ha⟩ => by subst e; exact h i t acc a ht ha, fun acc τ2 ⟨a, e, ha⟩ => by subst e; exact hd acc a ha⟩
def rngI (lo : Int) (n : Nat) : List Int := (List.range n).map fun k : Nat => lo + k
theorem rngT_ints {lo : Int} {n : Nat} : rngT lo n = (rngI lo n).map T.int := by
  unfold rngT rngI
  rw [List.map_map]
  rfl
end TL

namespace TL
open PySem L2
section
variable {X : Cx}
def absT : C1 := fun t k => match t with
  | .int i => k false (.int (if i < 0 then -i else i))
  | _ => False
theorem q_abs_0 {i : Int} {k : Bool → T → Prop} : absT (.int i) k = k false (.int (if i < 0 then -i else i)) := rf rfl
end
def blF (p : Int → Bool) (t : T) : T := match t with
  | .int i => .bl (p i)
  | t => t
theorem map_blF {p : Int → Bool} {xs : List Int} : (xs.map T.int).map (blF p) = (xs.map p).map T.bl := by
  rw [List.map_map, List.map_map]
  rfl
theorem cut_drop {xs : List T} {n : Nat} : cutT xs (some (n : Int)) none = xs.drop n := by
  unfold cutT
  rw [HT.sIx_nat xs.length 0 n, HT.sIx_none]
  by_cases h : n ≤ xs.length
  · rw [Nat.min_eq_left h]
    exact List.take_of_length_le (by rw [List.length_drop]; exact Nat.le_refl _)
  · rw [Nat.min_eq_right (by omega), List.drop_of_length_le (Nat.le_refl _), List.drop_of_length_le (by omega)]
    simp
theorem sorted_drop {xs : List Int} {k : Nat} {x y : Int} (hs : xs.Pairwise (· < ·)) (hx : xs[k]? = some x) : y ∈ xs.drop (k + 1) ↔ (y ∈ xs ∧ x < y) := by
  have hi : k < xs.length := (List.getElem?_eq_some_iff.mp hx).1
  have ex : xs[k] = x := by rw [List.getElem?_eq_getElem hi] at hx; exact Option.some.inj hx
  rw [List.pairwise_iff_getElem] at hs
  constructor
  · intro h
    obtain ⟨j, hj, e⟩ := List.mem_iff_getElem.mp h
    rw [List.getElem_drop] at e
    rw [List.length_drop] at hj
    refine ⟨List.mem_of_mem_drop h, ?_⟩
    have := hs k (k + 1 + j) hi (by omega) (by omega)
    rw [← e, ← ex]
    exact this
  · rintro ⟨h, hlt⟩
    obtain ⟨j, hj, e⟩ := List.mem_iff_getElem.mp h
    have hk : k < j := by
      rcases Nat.lt_trichotomy j k with q | q | q
      · have := hs j k hj hi q
        omega
      · subst q
        omega
      · exact q
    rw [List.mem_iff_getElem]
    refine ⟨j - (k + 1), by rw [List.length_drop]; omega, ?_⟩
    rw [List.getElem_drop]
    rw [← e]
    congr 1
    omega
theorem sorted_drop0 {xs : List Int} {k : Nat} {x y : Int} (hs : xs.Pairwise (· < ·)) (hx : xs[k]? = some x) : y ∈ xs.drop k ↔ (y ∈ xs ∧ x ≤ y) := by
  have hi : k < xs.length := (List.getElem?_eq_some_iff.mp hx).1
  have ex : xs[k] = x := by rw [List.getElem?_eq_getElem hi] at hx; exact Option.some.inj hx
  rw [List.drop_eq_getElem_cons hi, List.mem_cons, sorted_drop hs hx, ex]
  constructor
  · rintro (rfl | ⟨h1, h2⟩)
    · exact ⟨List.mem_of_getElem? hx, Int.le_refl _⟩
    · exact ⟨h1, by omega⟩
  · rintro ⟨h1, h2⟩
    by_cases e : y = x
    · exact .inl e
    · exact .inr ⟨h1, by omega⟩
end TL

namespace TL
open PySem PySem.W L2
section
variable {X : Cx}
end
end TL

namespace TL
open PySem PySem.W PySem.Spec PyProof.Rows L2
open AutoSeq1 (wpAny_loadPart')
/-- at turn i a new tuple of such values, while A stands; n turns -/
def Itw (n : Nat) (A : Hp → Prop) (Pv : Nat → Hp → List V → Prop) : It :=
  ⟨fun i H => i < n ∧ A H, fun i H v H' => ∃ T vs, v = .ref T ∧ H T = none ∧ vs.length ≤ sizeLine ∧ H' = upd H T (.tup vs) ∧ Pv i H vs, fun i H => i = n ∧ A H⟩
theorem turn_gn {P : Program} {w : World} {K : PySem.W.Frag} {tg : Expr} {n : Nat} {A : Hp → Prop} {Pv : Nat → Hp → List V → Prop} {I : Addr} {ft wr : List Addr} {tn : Nat → Heap → Prop}
    (mem : I ∈ ft) (sub : ∀ b ∈ wr, b ∈ ft) (obj : ∀ i h, tn i h → ∀ b ∈ ft, ∃ o, h.get? b = some o ∧ ∀ v, o.data ≠ .cell v) (keep : ∀ i h h', tn i h → (∀ b ∈ ft, ∀ o, h.get? b = some o → h'.get? b = some o) → tn i h')
    (wk : ∀ (X : Cx), X.prog = P → X.w = w → X.K = K → X.calm = true → ∀ (i : Nat) (pins : List (Addr × Obj)) (s : Shared) (σ : L2.St) (H : Hp), Inv X pins σ H s → tn i s.heap → A H →
      ∃ (Y : Nat → Heap → Value → Heap → Prop) (St : Nat → Heap → Prop) (fp : List Addr), GoesN P w X.A tg I fp wr n Y St ∧ St i s.heap ∧ (∀ h', St (i + 1) h' → tn (i + 1) h') ∧
        ∀ v h', Y i s.heap v h' → ∃ T us vs, v = .ref T ∧ s.heap.objs.size ≤ T ∧ h'.IsTuple T (List.toArray us) ∧ Vals vs us ∧ vs.length ≤ sizeLine ∧ Pv i H vs)
    (self : ∀ (A : Around) (i : Nat) (s : Shared) (Q : Value → Shared → Prop) (E : Value → Shared → Prop), tn i s.heap → Q (.ref I) s → wpAny (model P w) A (pyIter (.ref I)) Q E s) :
    Turn P w K tg (Itw n A Pv) ft I tn where
  mem := mem
  obj := obj
  keep := keep
  self := self
  item := by
    intro X hP hw hK hc i pins s σ H E J hf st hg
    subst hP hw hK
    obtain ⟨hi, hA⟩ := hg
    obtain ⟨Y, St, fp, G, hs, nx, yl⟩ := wk X rfl rfl rfl hc i pins s σ H J st hA
    have lt : ∀ b ∈ ft, b < s.heap.objs.size := fun b hb => by
      obtain ⟨o, e, _⟩ := obj i _ st b hb
      exact Heap.lt_size e
    refine wpAny_mono (G.goes i s (fun v s2 => ∃ x H', Inv X pins σ H' s2 ∧ RelV x v ∧ (Itw n A Pv).yld i H x H' ∧ tn (i + 1) s2.heap ∧ ∀ b ∈ ft, H' b = none) E hi hs fun v h' tk hY hS hk _ => ?_) (fun r s1 ⟨v, e, q⟩ => ⟨v, e, q⟩) fun _ _ e => e
    obtain ⟨T, us, vs, rfl, hT, tup, rv, hl, pv⟩ := yl v h' hY
    have nT : H T = none := J.hok.fresh hT
    have ok : ObjOk X.prog X.w (upd H T (.tup vs)) h' T (.tup vs) := ⟨hl, us, rv, tup⟩
    have J2 : Inv X pins σ (upd H T (.tup vs)) { s with heap := h', toks := tk } := J.turnedNew (ch := wr) (t' := tk) hk (fun b hb => hf b (sub b hb)) hT ok
    refine ⟨.ref T, _, J2, rfl, ⟨T, vs, rfl, nT, hl, rfl, pv⟩, nx h' hS, fun b hb => ?_⟩
    rw [upd_ne (Nat.ne_of_lt (Nat.lt_of_lt_of_le (lt b hb) hT))]
    exact (hf b hb).1
  done := by
    intro X hP hw hK hc i pins s σ H E J hf st hg
    subst hP hw hK
    obtain ⟨rfl, hA⟩ := hg
    obtain ⟨Y, St, fp, G, hs, _, _⟩ := wk X rfl rfl rfl hc i pins s σ H J st hA
    refine G.stops s (fun s1 => Inv X pins σ H s1) E hs fun h' tk hk _ => ?_
    have out : ∀ b u, H b = some u → b ∉ wr := fun b u e z => by
      rw [(hf b (sub b z)).1] at e
      cases e
    refine J.step (g' := s.gens) (d' := s.drawn) (ch := wr) ?_ (fun b o _ _ hc e _ => hk b o hc e) (fun b o _ _ hc e _ => ⟨_, hk b o hc e⟩) (fun _ _ _ _ n => n) (fun b o hc e => ⟨o, hk b o hc e⟩) (fun _ _ e => e) (fun _ _ _ e => e) (fun b ps e => ⟨#[], by simpa using e⟩) ?_ ?_ J.bare
    · intro b hb
      obtain ⟨_, f1, _, f3, f4, f5⟩ := hf b (sub b hb)
      exact ⟨f3, f1, f4, f5⟩
    · rintro m ⟨o, es, ep, ho, r⟩
      exact ⟨o, es, ep, hk _ o (fun z => (hf _ (sub _ z)).2.1 rfl) ho, r⟩
    · intro b u e
      refine (J.hok b u e).stay (fun c v hc q => hk c v ?_ q) (fun _ q => q) fun _ _ q => q
      cases hc with
      | inl z => rw [z]; exact out b u e
      | inr z => exact out c _ z
def SrcK (K : PySem.W.Frag) (b : Bool) (H : Hp) (a : Addr) (xs : List V) : Prop := if b = true then SqL K H a xs else SqT K H a xs
def itr (b : Bool) (h : Heap) (it a : Addr) (i : Nat) : Prop := if b = true then h.IsListIter it a i else h.IsTupleIter it a i
def sqn (b : Bool) (h : Heap) (a : Addr) (items : Array Value) : Prop := if b = true then h.IsList a items else h.IsTuple a items
theorem itr_obj {b : Bool} {h : Heap} {it a : Addr} {i : Nat} (x : itr b h it a i) : ∃ o, h.get? it = some o ∧ ∀ v, o.data ≠ .cell v := by
  unfold itr at x
  split at x
  · obtain ⟨o, e, _, d⟩ := x
    exact ⟨o, e, fun v z => by rw [d] at z; cases z⟩
  · obtain ⟨o, e, _, d⟩ := x
    exact ⟨o, e, fun v z => by rw [d] at z; cases z⟩
theorem itr_keep {b : Bool} {h h' : Heap} {it a : Addr} {i : Nat} (x : itr b h it a i) (k : ∀ o, h.get? it = some o → h'.get? it = some o) : itr b h' it a i := by
  unfold itr at x ⊢
  split
  · rename_i e
    rw [if_pos e] at x
    exact x.at k
  · rename_i e
    rw [if_neg e] at x
    exact x.at k
theorem itr_ne {b : Bool} {h : Heap} {it a : Addr} {i : Nat} {items : Array Value} (x : itr b h it a i) (y : sqn b h a items) : a ≠ it := fun z => by
  subst z
  unfold itr at x
  unfold sqn at y
  split at x
  · rename_i e
    rw [if_pos e] at y
    obtain ⟨o1, h1, c1, _⟩ := x
    obtain ⟨o2, h2, c2, _⟩ := y
    rw [h1] at h2
    cases h2
    rw [c1] at c2
    injection c2 with c2
    exact absurd c2 (by decide)
  · rename_i e
    rw [if_neg e] at y
    obtain ⟨o1, h1, c1, _⟩ := x
    obtain ⟨o2, h2, c2, _⟩ := y
    rw [h1] at h2
    cases h2
    rw [c1] at c2
    injection c2 with c2
    exact absurd c2 (by decide)
theorem draws_b {P : Program} {w : World} {A : Around} (b : Bool) (hh : A.handled = none) (it a : Addr) (hne : a ≠ it) (items : Array Value) :
    Draws P w A it [it, a] items.size (fun i v => items[i]? = some v) (fun i h => itr b h it a i ∧ sqn b h a items) := by
  cases b with
  | true => exact Draws.list hh it a hne items
  | false => exact Draws.tuple hh it a hne items
section
variable {X : Cx} {pins : List (Addr × Obj)} {σ : L2.St} {H : Hp} {s : Shared}
theorem src_get {b : Bool} {a : Addr} {xs : List V} (I : Inv X pins σ H s) (h : SrcK X.K b H a xs) : ∃ its, Vals xs its ∧ sqn b s.heap a its.toArray := by
  cases b with
  | true =>
    obtain ⟨its, rv, p, _⟩ := I.list h
    exact ⟨its, rv, p.isList⟩
  | false =>
    obtain ⟨its, rv, p, _⟩ := I.tuple h
    exact ⟨its, rv, p⟩
theorem src_inj {b : Bool} {a : Addr} {xs ys : List V} (I : Inv X pins σ H s) (h : SrcK X.K b H a xs) (h' : SrcK X.K b H a ys) : xs = ys := by
  cases b with
  | true => exact I.list_inj h h'
  | false => exact I.tuple_inj h h'
theorem src_at {xs : List V} {its : List Value} {i : Nat} {v : Value} (r : Vals xs its) (h : its.toArray[i]? = some v) : ∃ x, xs[i]? = some x ∧ RelV x v := by
  rw [List.getElem?_toArray] at h
  have hl := r.length
  have hi : i < xs.length := by
    have := (List.getElem?_eq_some_iff.mp h).1
    omega
  obtain ⟨u, hu, ru⟩ := r.get (List.getElem?_eq_getElem hi)
  rw [h] at hu
  cases hu
  exact ⟨_, List.getElem?_eq_getElem hi, ru⟩
end
section
variable {X : Cx} {B : Bs}
theorem turn_zp {P : Program} {w : World} {K : PySem.W.Frag} {elts : List Expr} {kk : Nat} {tpos : Pos} (b1 b2 : Bool) (a1 a2 z TI TO i1 i2 : Addr) (n : Nat) (S : ZipSep2 z TI TO i1 i2 [i1, a1] [i2, a2]) :
    Turn P w K (.Tuple elts kk tpos) (Itw n (fun H => ∃ xs ys, SrcK K b1 H a1 xs ∧ SrcK K b2 H a2 ys ∧ min xs.length ys.length = n) fun i H vs => ∃ x y, vs = [x, y] ∧ (∀ xs, SrcK K b1 H a1 xs → xs[i]? = some x) ∧ ∀ ys, SrcK K b2 H a2 ys → ys[i]? = some y) [z, TI, TO, i1, i2] z
      (fun i h => IsZip h z TI TO .none ∧ IsTupOf2 h TI (.ref i1) (.ref i2) ∧ (∃ x y, IsTupOf2 h TO x y) ∧ itr b1 h i1 a1 i ∧ itr b2 h i2 a2 i) := by
  refine turn_gn (ft := [z, TI, TO, i1, i2]) (wr := [z, TO, i1, i2]) (by simp) (fun c q => by
    simp only [List.mem_cons, List.not_mem_nil, or_false] at q ⊢
    rcases q with q | q | q | q <;> simp [q]) (fun i h st c hc => ?_) (fun i h h' st k => ?_) (fun X hP hw hK hc i pins s σ H J st hA => ?_) fun A i s Q E st h => ?_
  · obtain ⟨q1, q2, ⟨x, y, q3⟩, q4, q5⟩ := st
    simp only [List.mem_cons, List.not_mem_nil, or_false] at hc
    rcases hc with q | q | q | q | q
    · rw [q]; exact ⟨_, q1, fun v q => nomatch q⟩
    · rw [q]; exact ⟨_, q2, fun v q => nomatch q⟩
    · rw [q]; exact ⟨_, q3, fun v q => nomatch q⟩
    · rw [q]; exact itr_obj q4
    · rw [q]; exact itr_obj q5
  · obtain ⟨q1, q2, ⟨x, y, q3⟩, q4, q5⟩ := st
    exact ⟨k z (by simp) _ q1, k TI (by simp) _ q2, ⟨x, y, k TO (by simp) _ q3⟩, itr_keep q4 fun o q => k i1 (by simp) o q, itr_keep q5 fun o q => k i2 (by simp) o q⟩
  · subst hP hw hK
    obtain ⟨q1, q2, q3, q4, q5⟩ := st
    obtain ⟨xs, ys, hx, hy, hn⟩ := hA
    obtain ⟨us, ru, pu⟩ := src_get J hx
    obtain ⟨ws, rw', pw⟩ := src_get J hy
    have hh : X.A.in1.handled = none := by simp [J.ok.hd hc]
    have G := GoesN.zip2 (prog := X.prog) (w := X.w) (elts := elts) (x1 := kk) (pos := tpos) S (draws_b b1 hh i1 a1 (itr_ne q4 pu) us.toArray) (draws_b b2 hh i2 a2 (itr_ne q5 pw) ws.toArray)
    rw [show min us.toArray.size ws.toArray.size = n by rw [List.size_toArray, List.size_toArray, ← ru.length, ← rw'.length, hn]] at G
    refine ⟨_, _, _, G, ?_, ?_, ?_⟩
    · exact ⟨q1, q2, q3, ⟨q4, pu⟩, q5, pw⟩
    · intro h' hs'
      exact ⟨hs'.1, hs'.2.1, hs'.2.2.1, hs'.2.2.2.1.1, hs'.2.2.2.2.1⟩
    · rintro v h' ⟨T, x, y, rfl, hT, hx', hy', tup⟩
      obtain ⟨x', ex, rx⟩ := src_at ru hx'
      obtain ⟨y', ey, ry⟩ := src_at rw' hy'
      exact ⟨T, _, _, rfl, hT, tup, .cons rx (.cons ry .nil), by show 2 ≤ sizeLine; decide, x', y', rfl, fun zs hz => by rw [src_inj J hz hx]; exact ex, fun zs hz => by rw [src_inj J hz hy]; exact ey⟩
  · exact wpAny_pyIter_zip st.1 h
def iZpB (K : PySem.W.Frag) (ta : TA) : TI := fun σ H R => ta σ H fun vs H2 => ∃ (b1 b2 : Bool) (a1 a2 : Addr) (xs ys : List V), vs = [.ref a1, .ref a2] ∧ SrcK K b1 H2 a1 xs ∧ SrcK K b2 H2 a2 ys ∧
  R (Itw (min xs.length ys.length) (fun H => ∃ xs' ys', SrcK K b1 H a1 xs' ∧ SrcK K b2 H a2 ys' ∧ min xs'.length ys'.length = min xs.length ys.length) fun i H vs => ∃ x y, vs = [x, y] ∧ (∀ xs, SrcK K b1 H a1 xs → xs[i]? = some x) ∧ ∀ ys, SrcK K b2 H a2 ys → ys[i]? = some y) H2
def itO (b : Bool) (a : Addr) : Obj := if b = true then { cls := .type "list_iterator", data := .fields #[.ref a, .int 0 0] } else { cls := .type "tuple_iterator", data := .fields #[.ref a, .int 0 0] }
theorem begins_b (b : Bool) (a : Addr) (items : Array Value) : Begins (.ref a) (itO b a) fun h => sqn b h a items := by
  cases b with
  | true => exact begins_list a items
  | false => exact begins_tuple a items
theorem itr_new {b : Bool} {h : Heap} {it a : Addr} (e : h.get? it = some (itO b a)) : itr b h it a 0 := by
  cases b with
  | true => exact ⟨_, e, rfl, rfl⟩
  | false => exact ⟨_, e, rfl, rfl⟩
theorem sqn_lt {b : Bool} {h : Heap} {a : Addr} {items : Array Value} (p : sqn b h a items) : a < h.objs.size := by
  unfold sqn at p
  split at p
  all_goals
    obtain ⟨o, e, _⟩ := p
    exact Heap.lt_size e
theorem pi_zp {X : Cx} {e f : Expr} {ta : TA} {p pos tpos : Pos} {elts : List Expr} {kk : Nat} (hg : Gl X "zip") (hm : X.mg "zip" = none) (ha : PA X [e, f] ta)
    (hs : starEach [e, f] X.env = (false, eval e X.env) :: starEach [f] X.env := by rfl) (hl : (backTo pos (starEach [f] X.env)).any (·.1) = false := by rfl) :
    PI X (.Tuple elts kk tpos) (.Call (.Name "zip" p) [e, f] [] pos) (iZpB X.K ta) := by
  refine ⟨fun pins s σ H R I h => ?_⟩
  refine Call_ (ld_blt I hg hm PyProof.Rows.boot_zip (PyProof.Rows.callWith_type1 (thn (ha.run pos pins s σ H _ I h) fun us s1 ⟨vs, H1, I1, r1, q1⟩ => ?_) hs hl))
  obtain ⟨b1, b2, a1, a2, xs, ys, rfl, hx, hy, q⟩ := q1
  cases r1 with
  | cons e1 r1 =>
  cases r1 with
  | cons e2 r1 =>
  cases r1
  cases e1
  cases e2
  obtain ⟨us, ru, pu⟩ := src_get I1 hx
  obtain ⟨ws, rw', pw⟩ := src_get I1 hy
  refine zip_begins2 (begins_b b1 a1 us.toArray) (begins_b b2 a2 ws.toArray) pu pw fun h' g1 g2 g3 g4 g5 _ hk => wpAny_pyIter_zip g1 ?_
  have I2 : Inv X pins σ H1 { s1 with heap := h' } := I1.kept (t' := s1.toks) hk
  have S := zip_sep2 (N := s1.heap.objs.size) (fp1 := [a1]) (fp2 := [a2]) (fun b hb => by rw [List.mem_singleton.mp hb]; exact sqn_lt pu) (fun b hb => by rw [List.mem_singleton.mp hb]; exact sqn_lt pw)
  refine ⟨_, _, _, _, H1, rfl, I2, turn_zp b1 b2 a1 a2 _ _ _ _ _ _ S, ⟨g1, g2, ⟨_, _, g3⟩, itr_new g4, itr_new g5⟩, fun c hc => ?_, q⟩
  have hle : s1.heap.objs.size ≤ c := by
    simp only [List.mem_cons, List.not_mem_nil, or_false] at hc
    rcases hc with e | e | e | e | e <;> rw [e]
    all_goals first
      | exact Nat.le_add_right _ _
      | exact Nat.le_refl _
  exact I1.fpOk hle (I1.hok.fresh hle)
def numd (ts : List T) : List T := ts.mapIdx fun i t => .tup [.int i, t]
def enumI (t : T) (P : List T → Prop) : Prop := match t with
  | .lst ts => P (numd ts)
  | .tup ts => P (numd ts)
  | _ => False
def tiEnum (tx : TTX) : TTI := fun τ P => tx τ fun t u τ1 => enumI t fun ts => P ts u τ1
/-- zip of two frozen ones -/
def zipP (xs ys : List T) : List T := List.zipWith (fun x y => T.tup [x, y]) xs ys
def sqOf (t : T) (P : List T → Prop) : Prop := match t with
  | .lst ts => P ts
  | .tup ts => P ts
  | _ => False
def zpL (ts : List T) (P : List T → Prop) : Prop := match ts with
  | [a, b] => sqOf a fun xs => sqOf b fun ys => P (zipP xs ys)
  | _ => False
def tiZp (tl : TTL) : TTI := fun τ P => tl τ fun ts τ1 => zpL ts fun us => P us none τ1
theorem sqOf.inv {K : PySem.W.Frag} {F : Hp} {t : T} {v : V} {P : List T → Prop} (h : sqOf t P) (r : Rep K F t v) : ∃ ts b a vs, P ts ∧ v = .ref a ∧ Reps K F ts vs ∧ ∀ F' H, Same F F' → Same F' H → SrcK K b H a vs := by
  cases t with
  | lst ts =>
    obtain ⟨a, vs, rfl, q, _, r⟩ := r
    exact ⟨ts, true, a, vs, h, rfl, r, fun F' H s s' => SqL.of (s' _ _ (s _ _ q))⟩
  | tup ts =>
    obtain ⟨a, vs, rfl, q, _, r⟩ := r
    exact ⟨ts, false, a, vs, h, rfl, r, fun F' H s s' => SqT.mono s' (SqT.mono s q)⟩
  | _ => exact h.elim
theorem zipP_get {xs ys : List T} {i : Nat} {t : T} (h : (zipP xs ys)[i]? = some t) : ∃ x y, xs[i]? = some x ∧ ys[i]? = some y ∧ t = .tup [x, y] := by
  unfold zipP at h
  rw [List.getElem?_zipWith] at h
  cases e1 : xs[i]? with
  | none => rw [e1] at h; cases h
  | some x =>
    cases e2 : ys[i]? with
    | none => rw [e1, e2] at h; cases h
    | some y =>
      rw [e1, e2] at h
      cases h
      exact ⟨x, y, rfl, rfl, rfl⟩
theorem zipP_len {xs ys : List T} : (zipP xs ys).length = min xs.length ys.length := by simp [zipP]
theorem tup2_grow {K : PySem.W.Frag} {F H : Hp} {t u : T} {v w : V} {p : Addr} (s : Same F H) (n : H p = none) (r : Rep K F t v) (q : Rep K F u w) : ∃ F', Grow F H F' (upd H p (.tup [v, w])) ∧ Rep K F' (.tup [t, u]) (.ref p) := by
  have nF : F p = none := s.free n
  exact ⟨_, Grow.frz s n, p, _, rfl, .inl (.inl upd_same), (by show 2 ≤ sizeLine; decide), _, _, rfl, Rep.mono (same_upd nF) _ _ r, _, _, rfl, Rep.mono (same_upd nF) _ _ q, rfl⟩
theorem tpi_zp {e f : Expr} {tl : TTL} {p pos tpos : Pos} {elts : List Expr} {kk : Nat} (hg : Gl X "zip") (hm : X.mg "zip" = none) (h : TPL X B [e, f] tl)
    (hs : starEach [e, f] X.env = (false, eval e X.env) :: starEach [f] X.env := by rfl) (hl : (backTo pos (starEach [f] X.env)).any (·.1) = false := by rfl) :
    TPI X B (.Tuple elts kk tpos) (.Call (.Name "zip" p) [e, f] [] pos) (tiZp tl) := ⟨PI.imp (pi_zp hg hm h.pa hs hl) fun σ H R q => by
  obtain ⟨F, τ, P, I, ht, hq⟩ := q
  refine ⟨F, τ, _, I, ht, fun ts τ1 F1 H1 vs h1 I1 s1 rs => ?_⟩
  match ts, h1 with
  | [t1, t2], h1 =>
  obtain ⟨v1, r1, rfl, e1, v2, r2, rfl, e2, e3⟩ := rs
  cases e3
  obtain ⟨xs, b1, a1, us, h1, rfl, rx, gx⟩ := sqOf.inv h1 e1
  obtain ⟨ys, b2, a2, ws, h1, rfl, ry, gy⟩ := sqOf.inv h1 e2
  have el : ∀ F H σ τ, Same F1 F → WF X.K F H σ τ → SrcK X.K b1 H a1 us ∧ SrcK X.K b2 H a2 ws := fun F H σ τ s w => ⟨gx F H s w.sub, gy F H s w.sub⟩
  have hlen : min us.length ws.length = (zipP xs ys).length := by rw [zipP_len, rx.len, ry.len]
  have g0 := el F1 H1 σ τ1 (fun _ _ h => h) I1.wf
  refine ⟨b1, b2, a1, a2, us, ws, rfl, g0.1, g0.2, hq _ none τ1 F1 H1 _ (fun F _ _ => Same F1 F) h1 I1 s1 ⟨fun F σ τ F' σ' τ' s q => s.trans q.sub, fun i F H σ τ q w hi => ?_, fun F H σ τ q w => ?_, fun i t F H σ τ x H' q w ht y => ?_⟩ fun _ _ h => h⟩
  · have g := el F H σ τ q w
    exact ⟨by rw [hlen]; exact hi, us, ws, g.1, g.2, rfl⟩
  · have g := el F H σ τ q w
    exact ⟨hlen.symm, us, ws, g.1, g.2, rfl⟩
  · have g := el F H σ τ q w
    obtain ⟨T, vs, rfl, nT, _, rfl, x', y', rfl, hx, hy⟩ := y
    obtain ⟨t1, t2, ex, ey, rfl⟩ := zipP_get ht
    obtain ⟨u1, f1, q1⟩ := rx.get ex
    obtain ⟨u2, f2, q2⟩ := ry.get ey
    rw [hx us g.1] at f1
    rw [hy ws g.2] at f2
    cases f1
    cases f2
    exact tup2_grow w.sub nT (Rep.mono q _ _ q1) (Rep.mono q _ _ q2)⟩
end
section
variable {τ : TSt} {Pi : List T → Lk → TSt → Prop} {tx : TTX} {tl : TTL}
theorem z_enum : tiEnum tx τ Pi = tx τ (@box _ ⟨fun t u τ1 => enumI t (@box _ ⟨fun ts => Pi ts u τ1⟩)⟩) := rf rfl
theorem q_enum_0 {ts : List T} {k : List T → Prop} : enumI (.lst ts) k = k (numd ts) := rf rfl
theorem q_enum_1 {ts : List T} {k : List T → Prop} : enumI (.tup ts) k = k (numd ts) := rf rfl
theorem z_zp : tiZp tl τ Pi = tl τ (@box _ ⟨fun ts τ1 => zpL ts (@box _ ⟨fun us => Pi us none τ1⟩)⟩) := rf rfl
theorem q_zpL {a b : T} {k : List T → Prop} : zpL [a, b] k = sqOf a (@box _ ⟨fun xs => sqOf b (@box _ ⟨fun ys => k (zipP xs ys)⟩)⟩) := rf rfl
theorem q_sqOf_0 {ts : List T} {k : List T → Prop} : sqOf (.lst ts) k = k ts := rf rfl
theorem q_sqOf_1 {ts : List T} {k : List T → Prop} : sqOf (.tup ts) k = k ts := rf rfl
end
end TL

namespace TL
open PySem PySem.W PySem.Spec PyProof.Rows L2
def tupI (ns : List Int) : T := .tup (ns.map T.int)
def rleB (a b : List Int) : Bool := decide (a ≤ b)
def srtR (rs : List (List Int)) : List (List Int) := rs.mergeSort rleB
section
variable {X : Cx} {B : Bs}
def sortedRT : C1 := fun t k => match t with
  | .lst ts => ∃ rs : List (List Int), ts = rs.map tupI ∧ (∀ r ∈ rs, r ≠ []) ∧ k true (.lst ((srtR rs).map tupI))
  | _ => False
theorem keys_ints : ∀ {us : List Value} {vs : List (Key × Value)} {ks : List Int}, us.length = vs.length → vs.map (·.1) = ks.map Sum.inl → (∀ (j : Nat) (v : Value), us[j]? = some v → ∃ (k : Key) (x : Value), vs[j]? = some (k, x) ∧ keyIs k v = true) → IntsAre us ks := by
  intro us vs ks hl e h
  have r := keys_at hl h
  have e2 : vs.map (fun p => kV p.1) = ks.map V.int := by
    have := congrArg (List.map kV) e
    rw [List.map_map, List.map_map] at this
    exact this
  rw [e2] at r
  exact r.ints
theorem cr_sortedDi (hcalm : X.calm = true) : CallR X (.builtin "sorted") (fun xs H Q => ∃ (a : Addr) (kvs : List (Key × V)) (ks : List Int), xs = [.ref a] ∧ Rd H a (.dK kvs) ∧ kvs.map (·.1) = ks.map Sum.inl ∧ ks.length ≤ sizeLine ∧
    ∀ (ns : List Int) (p : Addr), ns.Perm ks → ns.Pairwise (· ≤ ·) → H p = none → Q (.ref p) (upd H p (.lst (ns.map V.int)))) := by
  intro pins s σ H xs us Q I r q
  obtain ⟨a, kvs, ks, rfl, hd, hks, hz, q⟩ := q
  rw [Vals.ref1 r]
  obtain ⟨z, lo, vs, rel, dd⟩ := dk_rd I.hok hd
  obtain ⟨ep, hat⟩ := dd.dictAt
  have hkeys : vs.map (·.1) = ks.map Sum.inl := rel.keys.symm.trans hks
  have hl : vs.length = ks.length := by simpa using congrArg List.length hkeys
  refine Calls.call_function_entry kind_sorted plain_sorted entry_sorted (args_sorted1 _) ?_
  unfold Builtin.«sorted»
  refine wpAny_bind (m := checkCount "sorted" 1 1 _) (wpAny_pure ?_)
  refine wpAny_bind (kdu_collect (A := X.A.in1) (kdl_dict (knd := mixKind X.prog X.w) (kvs := vs) (ep := ep) lo) (I.ok.hd hcalm) hat (by rw [hl]; exact hz) fun h' tk acc hk hacc => ?_)
  have hal : acc.toList.length = ks.length := by rw [Array.length_toList, hacc.1, hl]
  have hS : IntsAre acc.toList ks := keys_ints (by rw [hal, hl]) hkeys fun j v e => hacc.2 j v (by rw [← Array.getElem?_toList]; exact e)
  have I1 : Inv X pins σ H { s with heap := h', toks := tk } := I.kept hk
  refine wpAny_bind (wpAny_newList ?_ (by rw [hal]; exact hz))
  have hoL : (h'.push (seqObj "list" acc.toList.toArray 0)).get? h'.objs.size = some (seqObj "list" acc.toList.toArray 0) := Heap.get?_push_size _ rfl
  refine wpAny_bind (wpAny_holding (wpAny_call_entry slot_list_sort ⟨_, hoL, rfl⟩ entry_list_sort
    (SrtO.list_sort_ord (s := { s with heap := h'.push (seqObj "list" acc.toList.toArray 0), toks := tk }) SrtO.swo_int hoL (by rw [hal]; exact hz) (fun h2 => SrtO.ints_sortable hS h2) fun out h1 h2 => ⟨_, rfl, ?_⟩) (args_list_sort _)))
  obtain ⟨k1, k2, k3⟩ := SrtO.ints_out hS h1 h2
  obtain ⟨e', he'⟩ := sortedHeap_at (vs := acc.toList) (out := out.toArray) hoL
  have hlen : ((out.map SrtO.iv).map V.int).length ≤ sizeLine := by
    rw [List.length_map, k2.length_eq]
    exact hz
  refine wpAny_pure ⟨_, rfl, .ref h'.objs.size, upd H h'.objs.size (.lst ((out.map SrtO.iv).map V.int)), I1.laid (t' := tk) (fun b u e => ?_) (Nat.le_refl _) ⟨hlen, out, e', vals_of_ints k1, he'⟩, rfl, q _ _ k2 k3 (I1.hok.fresh (Nat.le_refl _))⟩
  have hb : b < h'.objs.size := Heap.lt_size e
  rw [sortedHeap_old (Nat.ne_of_lt hb) (by rw [Heap.size_push]; exact Nat.lt_succ_of_lt hb)]
  exact Heap.get?_push_of_some _ e
def sortedDT : C1 := fun t k => match t with
  | .dct ks ts => ∃ ns : List Int, ks = ns.map Sum.inl ∧ k true (.lst ((srt ns).map T.int))
  | _ => False
theorem c_sortedD (hc : X.calm = true) : CalT1 X (.builtin "sorted") sortedDT := by
  refine ⟨_, cr_sortedDi hc, fun F H x t G Q s r hg k => ?_⟩
  cases t with
  | dct ks ts =>
    obtain ⟨ns, rfl, hg⟩ := hg
    obtain ⟨a, kvs, rfl, hd, z, e, rp⟩ := r.dct s
    have el : ns.length = kvs.length := by simpa using (congrArg List.length e).symm
    refine ⟨a, kvs, ns, rfl, hd, e, by omega, fun ms p pm le np => ?_⟩
    rw [srt_uniq pm le]
    refine k true _ _ _ _ hg (Grow.own s np) ⟨p, rfl, np, s.free np, _, upd_same, ?_, Reps.ints.mpr rfl⟩
    rw [List.length_map, (srt_perm ns).length_eq]
    omega
  | _ => exact hg.elim
theorem q_sortedR {ts : List T} {k : Bool → T → Prop} : sortedRT (.lst ts) k = ∃ rs : List (List Int), ts = rs.map tupI ∧ (∀ r ∈ rs, r ≠ []) ∧ k true (.lst ((srtR rs).map tupI)) := rf rfl
theorem q_sortedD {ks : List Key} {ts : List T} {k : Bool → T → Prop} : sortedDT (.dct ks ts) k = ∃ ns : List Int, ks = ns.map Sum.inl ∧ k true (.lst ((srt ns).map T.int)) := rf rfl
end
end TL

namespace TL
open PySem L2
section
variable {u : Lk} {τ1 : TSt} {g : TTG} {tt : TTT} {te : TTE} {vs : List Nat} {P : R → TSt → Prop} {xs : List Int}
theorem lcT_mb (f : Int → Bool) (hf : ∀ v ∈ vs, frzAt (lck u τ1) v) (hl : xs.length ≤ sizeLine)
    (h : ∀ x ∈ xs, g (.int x) (wipeT (lck u τ1) vs) (@box _ ⟨fun τ3 => te τ3 (@box _ ⟨fun r τ5 => frzR r τ5 (@box _ ⟨fun y τ6 => T.bl (f x) = y ∧ wipeT τ6 vs = wipeT (lck u τ1) vs⟩)⟩)⟩))
    (hd : P (.val true (.lst ((xs.map f).map T.bl))) (unl u τ1 (backT (lck u τ1) (wipeT (lck u τ1) vs) vs))) : lcT g ttYes te vs P (xs.map T.int) u τ1 := by
  refine lcT_m (blF f) hf (by rw [List.length_map]; exact hl) (fun t ht => ?_) (by rw [map_blF]; exact hd)
  obtain ⟨x, hx, rfl⟩ := List.mem_map.mp ht
  exact h x hx
end
theorem rngT_eq {lo : Int} {n : Nat} : rngT lo n = (rngI lo n).map T.int := rngT_ints
theorem map_take {α β : Type} (f : α → β) (xs : List α) (n : Nat) : (xs.map f).take n = (xs.take n).map f := by rw [List.map_take]
theorem cut_dropI {xs : List Int} {n : Nat} : cutT (xs.map T.int) (some (n : Int)) none = (xs.drop n).map T.int := by rw [cut_drop, List.map_drop]
theorem cut_takeI {xs : List Int} {n : Nat} : cutT (xs.map T.int) none (some (n : Int)) = (xs.take n).map T.int := by
  unfold cutT
  rw [HT.sIx_nat, HT.sIx_none, List.drop_zero, Nat.sub_zero, ← List.map_take]
  by_cases h : n ≤ (xs.map T.int).length
  · rw [Nat.min_eq_left h]
  · rw [Nat.min_eq_right (by omega), List.take_of_length_le (i := n) (by simp at h ⊢; omega), List.take_of_length_le (by simp)]
theorem q_ix_d {ks : List Key} {ts : List T} {i : Int} {k : T → Prop} : ixT (.dct ks ts) (.int i) k = ∃ t, dGetT ks ts (Sum.inl i) = some t ∧ k t := by simp [ixT, keyT]
section
variable {u : Lk} {τ1 : TSt} {g : TTG} {tt : TTT} {te : TTE} {vs : List Nat} {P : R → TSt → Prop} {xs : List Int}
end
end TL

namespace TL
open PySem L2
theorem eo_evens : eqOk (.str "evens") = true := eo_str (by decide +kernel)
theorem eo_sums : eqOk (.str "sums") = true := eo_str (by decide +kernel)
theorem eo_pairs : eqOk (.str "pairs") = true := eo_str (by decide +kernel)
theorem eo_gaps : eqOk (.str "gaps") = true := eo_str (by decide +kernel)
theorem q_es_evens_evens {k : Bool → T → Prop} : eqT (.str "evens") (.str "evens") k = k false (.bl true) := by unfold eqT; simp only [eo_evens, eo_sums, eo_pairs, eo_gaps, ev_str, Bool.and_self, true_and]; rfl
theorem q_ns_evens_evens {k : Bool → T → Prop} : neT (.str "evens") (.str "evens") k = k false (.bl false) := by unfold neT; simp only [eo_evens, eo_sums, eo_pairs, eo_gaps, ev_str, Bool.and_self, true_and]; rfl
theorem q_es_evens_sums {k : Bool → T → Prop} : eqT (.str "evens") (.str "sums") k = k false (.bl false) := by unfold eqT; simp only [eo_evens, eo_sums, eo_pairs, eo_gaps, ev_str, Bool.and_self, true_and]; rw [show decide (("evens" : Str) = "sums") = false by decide +kernel]
theorem q_ns_evens_sums {k : Bool → T → Prop} : neT (.str "evens") (.str "sums") k = k false (.bl true) := by unfold neT; simp only [eo_evens, eo_sums, eo_pairs, eo_gaps, ev_str, Bool.and_self, true_and]; rw [show decide (("evens" : Str) = "sums") = false by decide +kernel]; rfl
theorem q_es_evens_pairs {k : Bool → T → Prop} : eqT (.str "evens") (.str "pairs") k = k false (.bl false) := by unfold eqT; simp only [eo_evens, eo_sums, eo_pairs, eo_gaps, ev_str, Bool.and_self, true_and]; rw [show decide (("evens" : Str) = "pairs") = false by decide +kernel]
theorem q_ns_evens_pairs {k : Bool → T → Prop} : neT (.str "evens") (.str "pairs") k = k false (.bl true) := by unfold neT; simp only [eo_evens, eo_sums, eo_pairs, eo_gaps, ev_str, Bool.and_self, true_and]; rw [show decide (("evens" : Str) = "pairs") = false by decide +kernel]; rfl
theorem q_es_evens_gaps {k : Bool → T → Prop} : eqT (.str "evens") (.str "gaps") k = k false (.bl false) := by unfold eqT; simp only [eo_evens, eo_sums, eo_pairs, eo_gaps, ev_str, Bool.and_self, true_and]; rw [show decide (("evens" : Str) = "gaps") = false by decide +kernel]
theorem q_ns_evens_gaps {k : Bool → T → Prop} : neT (.str "evens") (.str "gaps") k = k false (.bl true) := by unfold neT; simp only [eo_evens, eo_sums, eo_pairs, eo_gaps, ev_str, Bool.and_self, true_and]; rw [show decide (("evens" : Str) = "gaps") = false by decide +kernel]; rfl
theorem q_es_sums_evens {k : Bool → T → Prop} : eqT (.str "sums") (.str "evens") k = k false (.bl false) := by unfold eqT; simp only [eo_evens, eo_sums, eo_pairs, eo_gaps, ev_str, Bool.and_self, true_and]; rw [show decide (("sums" : Str) = "evens") = false by decide +kernel]
theorem q_ns_sums_evens {k : Bool → T → Prop} : neT (.str "sums") (.str "evens") k = k false (.bl true) := by unfold neT; simp only [eo_evens, eo_sums, eo_pairs, eo_gaps, ev_str, Bool.and_self, true_and]; rw [show decide (("sums" : Str) = "evens") = false by decide +kernel]; rfl
theorem q_es_sums_sums {k : Bool → T → Prop} : eqT (.str "sums") (.str "sums") k = k false (.bl true) := by unfold eqT; simp only [eo_evens, eo_sums, eo_pairs, eo_gaps, ev_str, Bool.and_self, true_and]; rfl
theorem q_ns_sums_sums {k : Bool → T → Prop} : neT (.str "sums") (.str "sums") k = k false (.bl false) := by unfold neT; simp only [eo_evens, eo_sums, eo_pairs, eo_gaps, ev_str, Bool.and_self, true_and]; rfl
theorem q_es_sums_pairs {k : Bool → T → Prop} : eqT (.str "sums") (.str "pairs") k = k false (.bl false) := by unfold eqT; simp only [eo_evens, eo_sums, eo_pairs, eo_gaps, ev_str, Bool.and_self, true_and]; rw [show decide (("sums" : Str) = "pairs") = false by decide +kernel]
theorem q_ns_sums_pairs {k : Bool → T → Prop} : neT (.str "sums") (.str "pairs") k = k false (.bl true) := by unfold neT; simp only [eo_evens, eo_sums, eo_pairs, eo_gaps, ev_str, Bool.and_self, true_and]; rw [show decide (("sums" : Str) = "pairs") = false by decide +kernel]; rfl
theorem q_es_sums_gaps {k : Bool → T → Prop} : eqT (.str "sums") (.str "gaps") k = k false (.bl false) := by unfold eqT; simp only [eo_evens, eo_sums, eo_pairs, eo_gaps, ev_str, Bool.and_self, true_and]; rw [show decide (("sums" : Str) = "gaps") = false by decide +kernel]
theorem q_ns_sums_gaps {k : Bool → T → Prop} : neT (.str "sums") (.str "gaps") k = k false (.bl true) := by unfold neT; simp only [eo_evens, eo_sums, eo_pairs, eo_gaps, ev_str, Bool.and_self, true_and]; rw [show decide (("sums" : Str) = "gaps") = false by decide +kernel]; rfl
theorem q_es_pairs_evens {k : Bool → T → Prop} : eqT (.str "pairs") (.str "evens") k = k false (.bl false) := by unfold eqT; simp only [eo_evens, eo_sums, eo_pairs, eo_gaps, ev_str, Bool.and_self, true_and]; rw [show decide (("pairs" : Str) = "evens") = false by decide +kernel]
theorem q_ns_pairs_evens {k : Bool → T → Prop} : neT (.str "pairs") (.str "evens") k = k false (.bl true) := by unfold neT; simp only [eo_evens, eo_sums, eo_pairs, eo_gaps, ev_str, Bool.and_self, true_and]; rw [show decide (("pairs" : Str) = "evens") = false by decide +kernel]; rfl
theorem q_es_pairs_sums {k : Bool → T → Prop} : eqT (.str "pairs") (.str "sums") k = k false (.bl false) := by unfold eqT; simp only [eo_evens, eo_sums, eo_pairs, eo_gaps, ev_str, Bool.and_self, true_and]; rw [show decide (("pairs" : Str) = "sums") = false by decide +kernel]
theorem q_ns_pairs_sums {k : Bool → T → Prop} : neT (.str "pairs") (.str "sums") k = k false (.bl true) := by unfold neT; simp only [eo_evens, eo_sums, eo_pairs, eo_gaps, ev_str, Bool.and_self, true_and]; rw [show decide (("pairs" : Str) = "sums") = false by decide +kernel]; rfl
theorem q_es_pairs_pairs {k : Bool → T → Prop} : eqT (.str "pairs") (.str "pairs") k = k false (.bl true) := by unfold eqT; simp only [eo_evens, eo_sums, eo_pairs, eo_gaps, ev_str, Bool.and_self, true_and]; rfl
theorem q_ns_pairs_pairs {k : Bool → T → Prop} : neT (.str "pairs") (.str "pairs") k = k false (.bl false) := by unfold neT; simp only [eo_evens, eo_sums, eo_pairs, eo_gaps, ev_str, Bool.and_self, true_and]; rfl
theorem q_es_pairs_gaps {k : Bool → T → Prop} : eqT (.str "pairs") (.str "gaps") k = k false (.bl false) := by unfold eqT; simp only [eo_evens, eo_sums, eo_pairs, eo_gaps, ev_str, Bool.and_self, true_and]; rw [show decide (("pairs" : Str) = "gaps") = false by decide +kernel]
theorem q_ns_pairs_gaps {k : Bool → T → Prop} : neT (.str "pairs") (.str "gaps") k = k false (.bl true) := by unfold neT; simp only [eo_evens, eo_sums, eo_pairs, eo_gaps, ev_str, Bool.and_self, true_and]; rw [show decide (("pairs" : Str) = "gaps") = false by decide +kernel]; rfl
theorem q_es_gaps_evens {k : Bool → T → Prop} : eqT (.str "gaps") (.str "evens") k = k false (.bl false) := by unfold eqT; simp only [eo_evens, eo_sums, eo_pairs, eo_gaps, ev_str, Bool.and_self, true_and]; rw [show decide (("gaps" : Str) = "evens") = false by decide +kernel]
theorem q_ns_gaps_evens {k : Bool → T → Prop} : neT (.str "gaps") (.str "evens") k = k false (.bl true) := by unfold neT; simp only [eo_evens, eo_sums, eo_pairs, eo_gaps, ev_str, Bool.and_self, true_and]; rw [show decide (("gaps" : Str) = "evens") = false by decide +kernel]; rfl
theorem q_es_gaps_sums {k : Bool → T → Prop} : eqT (.str "gaps") (.str "sums") k = k false (.bl false) := by unfold eqT; simp only [eo_evens, eo_sums, eo_pairs, eo_gaps, ev_str, Bool.and_self, true_and]; rw [show decide (("gaps" : Str) = "sums") = false by decide +kernel]
theorem q_ns_gaps_sums {k : Bool → T → Prop} : neT (.str "gaps") (.str "sums") k = k false (.bl true) := by unfold neT; simp only [eo_evens, eo_sums, eo_pairs, eo_gaps, ev_str, Bool.and_self, true_and]; rw [show decide (("gaps" : Str) = "sums") = false by decide +kernel]; rfl
theorem q_es_gaps_pairs {k : Bool → T → Prop} : eqT (.str "gaps") (.str "pairs") k = k false (.bl false) := by unfold eqT; simp only [eo_evens, eo_sums, eo_pairs, eo_gaps, ev_str, Bool.and_self, true_and]; rw [show decide (("gaps" : Str) = "pairs") = false by decide +kernel]
theorem q_ns_gaps_pairs {k : Bool → T → Prop} : neT (.str "gaps") (.str "pairs") k = k false (.bl true) := by unfold neT; simp only [eo_evens, eo_sums, eo_pairs, eo_gaps, ev_str, Bool.and_self, true_and]; rw [show decide (("gaps" : Str) = "pairs") = false by decide +kernel]; rfl
theorem q_es_gaps_gaps {k : Bool → T → Prop} : eqT (.str "gaps") (.str "gaps") k = k false (.bl true) := by unfold eqT; simp only [eo_evens, eo_sums, eo_pairs, eo_gaps, ev_str, Bool.and_self, true_and]; rfl
theorem q_ns_gaps_gaps {k : Bool → T → Prop} : neT (.str "gaps") (.str "gaps") k = k false (.bl false) := by unfold neT; simp only [eo_evens, eo_sums, eo_pairs, eo_gaps, ev_str, Bool.and_self, true_and]; rfl
theorem ok1_tupI {r : List Int} : Ok1 1 (tupI r) := ok1_tup ok1_ints
theorem ok1_rows {rs : List (List Int)} : ∀ t ∈ rs.map tupI, Ok1 1 t := fun t ht => by
  obtain ⟨r, _, rfl⟩ := List.mem_map.mp ht
  exact ok1_tupI
theorem eo_rows {rs : List (List Int)} : eqOk (.lst (rs.map tupI)) = true := (ok1_lst ok1_rows).eqOk (by decide)
theorem ev_tupI {a b : List Int} : T.eqv (tupI a) (tupI b) = decide (a = b) := ev_intsT
theorem tupI_inj {a b : List Int} : tupI a = tupI b ↔ a = b := by
  unfold tupI
  constructor
  · intro h
    injection h with h
    exact map_int_inj.mp h
  · intro h; rw [h]
theorem map_tupI_inj : ∀ {a b : List (List Int)}, a.map tupI = b.map tupI ↔ a = b
  | [], [] => by simp
  | [], _ :: _ => by simp
  | _ :: _, [] => by simp
  | x :: a, y :: b => by
    rw [List.map_cons, List.map_cons, List.cons.injEq, List.cons.injEq, tupI_inj, map_tupI_inj]
theorem ev_rows {a b : List (List Int)} : T.eqv (.lst (a.map tupI)) (.lst (b.map tupI)) = decide (a = b) := by
  rw [ev_lst, Bool.eq_iff_iff, eqvAll_iff, map_tupI_inj, decide_eq_true_eq]
  intro x hx y hy
  obtain ⟨i, _, rfl⟩ := List.mem_map.mp hx
  obtain ⟨j, _, rfl⟩ := List.mem_map.mp hy
  rw [ev_tupI, decide_eq_true_eq, tupI_inj]
theorem q_eq_rows {a b : List (List Int)} {k : Bool → T → Prop} : eqT (.lst (a.map tupI)) (.lst (b.map tupI)) k = k false (.bl (decide (a = b))) := by unfold eqT; rw [eo_rows, eo_rows, ev_rows]; simp
theorem q_ne_rows {a b : List (List Int)} {k : Bool → T → Prop} : neT (.lst (a.map tupI)) (.lst (b.map tupI)) k = k false (.bl (!decide (a = b))) := by unfold neT; rw [eo_rows, eo_rows, ev_rows]; simp
theorem q_eq_rows0 {a : List (List Int)} {k : Bool → T → Prop} : eqT (.lst (a.map tupI)) (.lst []) k = k false (.bl (decide (a = []))) := q_eq_rows (b := [])
theorem q_ne_rows0 {a : List (List Int)} {k : Bool → T → Prop} : neT (.lst (a.map tupI)) (.lst []) k = k false (.bl (!decide (a = []))) := q_ne_rows (b := [])
theorem q_eq_t0 {a : List Int} {k : Bool → T → Prop} : eqT (.tup (a.map T.int)) (.tup []) k = k false (.bl (decide (a = []))) := q_eq_3 (ms := [])
theorem q_ne_t0 {a : List Int} {k : Bool → T → Prop} : neT (.tup (a.map T.int)) (.tup []) k = k false (.bl (!decide (a = []))) := q_ne_3 (ms := [])
theorem q_eq_l0 {a : List Int} {k : Bool → T → Prop} : eqT (.lst (a.map T.int)) (.lst []) k = k false (.bl (decide (a = []))) := q_eq_2 (ms := [])
theorem q_is_r {w : List Int} {o : Bool} {k : Bool → T → Prop} : isT o (tupI w) .non k = k false (.bl o) := q_is_4
theorem isi_tuple_r {w : List Int} : isiT "tuple" (tupI w) = some true := isi_tuple_tup
theorem isi_list_r {w : List Int} : isiT "list" (tupI w) = some false := isi_list_tup
/-- a list or a tuple of ints -/
def sqT (b : Bool) (xs : List Int) : T := if b = true then .lst (xs.map T.int) else .tup (xs.map T.int)
/-- put behind where it is new -/
def addI (zs : List Int) (v : Int) : List Int := if v ∈ zs then zs else zs ++ [v]
theorem addI_mem {zs : List Int} {v x : Int} : x ∈ addI zs v ↔ x ∈ zs ∨ x = v := by
  unfold addI
  by_cases h : v ∈ zs
  · rw [if_pos h]
    exact ⟨.inl, fun q => q.elim id fun e => e ▸ h⟩
  · rw [if_neg h, List.mem_append, List.mem_singleton]
theorem addI_nd {zs : List Int} {v : Int} (q : zs.Nodup) : (addI zs v).Nodup := by
  unfold addI
  by_cases h : v ∈ zs
  · rw [if_pos h]; exact q
  · rw [if_neg h, List.nodup_append]
    exact ⟨q, by simp, fun x hx y hy e => by rw [List.mem_singleton.mp hy] at e; exact h (e ▸ hx)⟩
theorem addI_len {zs : List Int} {v : Int} : (addI zs v).length ≤ zs.length + 1 := by
  unfold addI
  split
  · omega
  · simp
theorem addI_pos {zs : List Int} {v : Int} : 0 < (addI zs v).length := List.length_pos_iff.mpr (List.ne_nil_of_mem (addI_mem.mpr (.inr rfl)))
theorem dPutK_ints {zs : List Int} {v : Int} : dPutK (zs.map Sum.inl) (Sum.inl v) = (addI zs v).map Sum.inl := by
  unfold dPutK addI
  have e : kMem (Sum.inl v) (zs.map Sum.inl) = decide (v ∈ zs) := by
    rw [Bool.eq_iff_iff, kMem_iff, decide_eq_true_eq, List.mem_map]
    constructor
    · rintro ⟨a, ha, e⟩
      rw [← Sum.inl.inj e]
      exact ha
    · exact fun h => ⟨v, h, rfl⟩
  rw [e]
  by_cases h : v ∈ zs
  · simp [h]
  · simp [h]
theorem srt_lt {zs : List Int} (h : zs.Nodup) : (srt zs).Pairwise (· < ·) := by
  have h1 := srt_le zs
  have h2 : (srt zs).Nodup := (srt_perm zs).nodup_iff.mpr h
  rw [List.nodup_iff_pairwise_ne] at h2
  exact (List.Pairwise.and h1 h2).imp fun h => by omega
inductive Rl where
  | evens | sums | pairs | gaps (ss : List Int)
def ruleT : Rl → T
  | .evens => .tup [.str "evens"]
  | .sums => .tup [.str "sums"]
  | .pairs => .tup [.str "pairs"]
  | .gaps ss => .tup [.str "gaps", .tup (ss.map T.int)]
theorem q_r0_e {k : T → Prop} : ixT (ruleT .evens) (.int 0) k = k (.str "evens") := by unfold ruleT; rw [q_ix_1, atI_0, ex_some]
theorem q_r0_s {k : T → Prop} : ixT (ruleT .sums) (.int 0) k = k (.str "sums") := by unfold ruleT; rw [q_ix_1, atI_0, ex_some]
theorem q_r0_p {k : T → Prop} : ixT (ruleT .pairs) (.int 0) k = k (.str "pairs") := by unfold ruleT; rw [q_ix_1, atI_0, ex_some]
theorem q_r0_g {ss : List Int} {k : T → Prop} : ixT (ruleT (.gaps ss)) (.int 0) k = k (.str "gaps") := by unfold ruleT; rw [q_ix_1, atI_0, ex_some]
theorem q_r1_g {ss : List Int} {k : T → Prop} : ixT (ruleT (.gaps ss)) (.int 1) k = k (.tup (ss.map T.int)) := by unfold ruleT; rw [q_ix_1, atI_1, ex_some]
theorem b2i_t : TL.b2i true = 1 := rf rfl
theorem b2i_f : TL.b2i false = 0 := rf rfl
def rnm : Rl → Str
  | .evens => "evens"
  | .sums => "sums"
  | .pairs => "pairs"
  | .gaps _ => "gaps"
def isS : Rl → Bool
  | .sums => true
  | _ => false
def isP : Rl → Bool
  | .pairs => true
  | _ => false
theorem q_rg0 {r : Rl} {k : T → Prop} : ixT (ruleT r) (.int 0) k = k (.str (rnm r)) := by
  cases r
  · exact q_r0_e
  · exact q_r0_s
  · exact q_r0_p
  · exact q_r0_g
theorem q_rgs {r : Rl} {k : Bool → T → Prop} : eqT (.str (rnm r)) (.str "sums") k = k false (.bl (isS r)) := by
  cases r
  · exact q_es_evens_sums
  · exact q_es_sums_sums
  · exact q_es_pairs_sums
  · exact q_es_gaps_sums
theorem q_rgsn {r : Rl} {k : Bool → T → Prop} : neT (.str (rnm r)) (.str "sums") k = k false (.bl (!isS r)) := by
  cases r
  · exact q_ns_evens_sums
  · exact q_ns_sums_sums
  · exact q_ns_pairs_sums
  · exact q_ns_gaps_sums
theorem q_rgp {r : Rl} {k : Bool → T → Prop} : eqT (.str (rnm r)) (.str "pairs") k = k false (.bl (isP r)) := by
  cases r
  · exact q_es_evens_pairs
  · exact q_es_sums_pairs
  · exact q_es_pairs_pairs
  · exact q_es_gaps_pairs
theorem q_rgpn {r : Rl} {k : Bool → T → Prop} : neT (.str (rnm r)) (.str "pairs") k = k false (.bl (!isP r)) := by
  cases r
  · exact q_ns_evens_pairs
  · exact q_ns_sums_pairs
  · exact q_ns_pairs_pairs
  · exact q_ns_gaps_pairs
end TL

namespace TL
open PySem L2
section
variable {X : Cx} {B : Bs} {pos : Pos}
def tgLst (n : Nat) (gs : TTGs) : TTG := fun t τ P => match t with
  | .lst ts => ts.length = n ∧ gs ts τ P
  | _ => False
theorem z_tgL {n : Nat} {xs : List T} {tgs : TTGs} {τ : TSt} {Pg : TSt → Prop} : tgLst n tgs (.lst xs) τ Pg = (xs.length = n ∧ tgs xs τ Pg) := rf rfl
def parK (ts : List T) (τ : TSt) (i j : Nat) (P : TSt → Prop) : Prop := match ts with
  | [a, b] => setS τ i ⟨.frz, false, a⟩ fun τ1 => setS τ1 j ⟨.frz, false, b⟩ P
  | _ => False
def ttPar (i j : Nat) (tl : TTL) : TTS := fun D τ => tl τ fun ts τ1 => parK ts τ1 i j D.nx
theorem parK_2 {a b : T} {τ : TSt} {i j : Nat} {P : TSt → Prop} : parK [a, b] τ i j P = setS τ i ⟨.frz, false, a⟩ (@box _ ⟨fun τ1 => setS τ1 j ⟨.frz, false, b⟩ P⟩) := rf rfl
theorem z_par {i j : Nat} {tl : TTL} {D : TEnds} {τ : TSt} : ttPar i j tl D τ = tl τ (@box _ ⟨fun ts τ1 => parK ts τ1 i j D.nx⟩) := rf rfl
end
theorem eqv_self {t : T} (h : eqOk t = true) : T.eqv t t = true := PySem.SeqAt.eqv_refl _ (PySem.SeqAt.canLay_of_shaped (Bool.and_eq_true_iff.mp h).2)
theorem q_ne_self {t : T} {k : Bool → T → Prop} (h : eqOk t = true) : neT t t k = k false (.bl false) := by
  unfold neT
  rw [h, eqv_self h]
  simp
end TL

namespace TL
open PySem PySem.Spec PyProof.Rows L2
theorem nodup_len : ∀ {l m : List Int}, l.Nodup → (∀ x ∈ l, x ∈ m) → l.length ≤ m.length
  | [], _, _, _ => Nat.zero_le _
  | x :: l, m, hn, h => by
    have hx := h x List.mem_cons_self
    have h2 : l.length ≤ (m.erase x).length := nodup_len (List.nodup_cons.mp hn).2 fun y hy => (List.mem_erase_of_ne (fun e => (List.nodup_cons.mp hn).1 (by subst e; exact hy))).mpr (h y (List.mem_cons_of_mem _ hy))
    rw [List.length_erase_of_mem hx] at h2
    have := List.length_pos_of_mem hx
    rw [List.length_cons]
    omega
def metI (ns : List Int) : List Int := firstMet (fun i => ns.getD i 0) ns.length
section
variable {X : Cx} {a : Expr} {ta : TE} {p p2 q pos : Pos}
theorem sorted_set_ok {pins : List (Addr × Obj)} {σ : L2.St} {H : Hp} {s : Shared} {b : Addr} {S : Int → Bool} {n : Nat} {Q : VK} (hc : X.calm = true) (I : Inv X pins σ H s) (R : SetR X.w s.heap b S n) (h64 : n < 64)
    (q : ∀ (ms : List Int) (p : Addr), ms.Pairwise (· < ·) → (∀ k, k ∈ ms ↔ S k = true) → H p = none → Q (.ref p) (upd H p (.lst (ms.map V.int)))) :
    wpAny (model X.prog X.w) X.A (call (.builtin "sorted") [.ref b]) (EP X pins σ Q) X.xe s := by
  refine sorted_set R (I.ok.hd hc) h64 fun s' p out c ns k g o hp hg hi hs hm hl => ?_
  have hlen : (ns.map V.int).length ≤ sizeLine := by rw [List.length_map, hl, sizeLine_eq]; omega
  have hn : H p = none := I.hok.fresh hp
  have J : Inv X pins σ (upd H p (.lst (ns.map V.int))) { s with heap := s'.heap, gens := s'.gens, drawn := s'.drawn, toks := s'.toks } :=
    I.call (ch := []) (Un.laid k hp hn) (I.hok.laid k hp ⟨hlen, out.toList, c, vals_of_ints hi, hg⟩) (by rw [g]; exact I.bare) (fun _ z => nomatch z)
  have e : s' = { s with heap := s'.heap, gens := s'.gens, drawn := s'.drawn, toks := s'.toks } := by
    cases s'
    cases s
    cases o
    rfl
  rw [e]
  exact ⟨.ref p, _, J, rfl, q ns p hs hm hn⟩
def rSortSet (K : PySem.W.Frag) : List V → Hp → VK → Prop := fun xs H Q => ∃ (l : Addr) (ns : List Int), xs = [V.ref l] ∧ SqT K H l (ns.map V.int) ∧ ns.length < 64 ∧
  ∀ (ms : List Int) (p : Addr), ms.Pairwise (· < ·) → (∀ k, k ∈ ms ↔ k ∈ ns) → H p = none → Q (.ref p) (upd H p (.lst (ms.map V.int)))
theorem pe_sortSet (hc : X.calm = true) (hg : Gl X "sorted") (hm : X.mg "sorted" = none) (hg2 : Gl X "set") (hm2 : X.mg "set" = none) (ha : PE X a ta)
    (na : starEach [a] X.env = (false, eval a X.env) :: starEach [] X.env := by rfl) : PE X (.Call (.Name "sorted" p) [.Call (.Name "set" p2) [a] [] q] [] pos) (fun σ H Q => ta σ H fun x H1 => rSortSet X.K [x] H1 Q) := by
  refine ⟨fun pins s σ H Q I h => ?_⟩
  refine Call_ (ld_blt I hg hm PyProof.Rows.boot_sorted ?_)
  refine callWith_builtin1 (args_cons ?_ rfl) rfl rfl
  refine Call_ (ld_blt I hg2 hm2 PyProof.Rows.boot_set ?_)
  refine callWith_type1 (args_cons (thn (ha.run pins s σ H _ I h) fun v s1 ⟨x, H1, I1, r1, q1⟩ => args_nil ?_) na) na rfl
  obtain ⟨l, ns, ex, hq, h1, q1⟩ := q1
  cases ex
  cases r1
  obtain ⟨its, r, pl, hz⟩ := I1.tuple hq
  refine call_set_tupI ns (I1.ok.hd hc) pl (by simpa using r.ints) (by unfold scanBound; omega) fun h' tk c R hcn hk => ?_
  refine args_nil ?_
  have I2 : Inv X pins σ H1 { s1 with heap := h', toks := tk } := I1.kept hk
  exact sorted_set_ok hc I2 R (by omega) fun ms p hp hm np => q1 ms p hp (fun k => by rw [hm k, decide_eq_true_eq]) np
end
section
variable {X : Cx} {B : Bs} {e : Expr} {te : TTE} {p p2 q pos : Pos}
def lenSetT : C1 := fun t k => match t with
  | .lst ts => intsT ts fun ns => ns.length ≤ 4000 ∧ k false (.int (metI ns).length)
  | _ => False
def sortSetT : C1 := fun t k => match t with
  | .tup ts => intsT ts fun ns => ns.length < 64 ∧ ∀ ms : List Int, ms.Pairwise (· < ·) → (∀ x, x ∈ ms ↔ x ∈ ns) → k true (.lst (ms.map T.int))
  | _ => False
theorem tpe_sortSet (hc : X.calm = true) (hg : Gl X "sorted") (hm : X.mg "sorted" = none) (hg2 : Gl X "set") (hm2 : X.mg "set" = none) (he : TPE X B e te)
    (na : starEach [e] X.env = (false, eval e X.env) :: starEach [] X.env := by rfl) : TPE X B (.Call (.Name "sorted" p) [.Call (.Name "set" p2) [e] [] q] [] pos) (ttC1 sortSetT te) :=
  ⟨PE.imp (pe_sortSet hc hg hm hg2 hm2 he.pe na) fun σ H Q h => by
    refine c1_imp (r := rSortSet X.K) (fun F H x t G Q s r hg k => ?_) σ H Q h
    cases t with
    | tup ts =>
      obtain ⟨ns, rfl, hl, hg⟩ := hg
      obtain ⟨a, vs, rfl, hd, z, rp⟩ := r.tup
      rw [Reps.ints.mp rp] at hd
      refine ⟨a, ns, rfl, SqT.mono s hd, hl, fun ms p hp hm np => ?_⟩
      refine k true _ _ _ _ (hg ms hp hm) (Grow.own s np) ⟨p, rfl, np, s.free np, _, upd_same, ?_, Reps.ints.mpr rfl⟩
      rw [List.length_map]
      have := nodup_len (l := ms) (m := ns) (hp.imp fun h => by omega) fun x hx => (hm x).mp hx
      have := sizeLine_val
      omega
    | _ => exact hg.elim⟩
theorem q_lenSet {ns : List Int} {k : Bool → T → Prop} : lenSetT (.lst (ns.map T.int)) k = (ns.length ≤ 4000 ∧ k false (.int (metI ns).length)) := by
  show intsT _ _ = _
  rw [intsT_map]
theorem q_sortSet {ns : List Int} {k : Bool → T → Prop} : sortSetT (.tup (ns.map T.int)) k = (ns.length < 64 ∧ ∀ ms : List Int, ms.Pairwise (· < ·) → (∀ x, x ∈ ms ↔ x ∈ ns) → k true (.lst (ms.map T.int))) := by
  show intsT _ _ = _
  rw [intsT_map]
end
end TL

namespace TL
open PySem PySem.Spec PyProof.Rows L2
section
variable {P : Program} {w : World} {A : Around} {E : Value → Shared → Prop} {z : Shared}
end
section
variable {X : Cx} {a : Expr} {ta : TE} {p p2 q pos : Pos}
end
section
variable {X : Cx} {B : Bs} {e : Expr} {te : TTE} {p p2 q pos : Pos}
def sortSetLT : C1 := fun t k => match t with
  | .lst ts => intsT ts fun ns => ns.length < 64 ∧ ∀ ms : List Int, ms.Pairwise (· < ·) → (∀ x, x ∈ ms ↔ x ∈ ns) → k true (.lst (ms.map T.int))
  | _ => False
theorem q_sortSetL {ns : List Int} {k : Bool → T → Prop} : sortSetLT (.lst (ns.map T.int)) k = (ns.length < 64 ∧ ∀ ms : List Int, ms.Pairwise (· < ·) → (∀ x, x ∈ ms ↔ x ∈ ns) → k true (.lst (ms.map T.int))) := by
  show intsT _ _ = _
  rw [intsT_map]
end
end TL

namespace TL
open PySem PySem.Spec PyProof.Rows L2
section
variable {X : Cx} {B : Bs} {e a b : Expr} {te ta tb : TTE} {p p2 q pos : Pos}
theorem tpe_const {x : Str} {t : T} (hg : Gl X x) (h : ∃ v u, X.mg x = some u ∧ RelV v u ∧ ∀ F, Rep X.K F t v) (hd : (x == ("__debug__" : Str)) = false := by decide) : TPE X B (.Name x pos) (tk t) := by
  obtain ⟨v, u, hm, r, rp⟩ := h
  refine ⟨PE.imp (pe_glob hg hm r hd) fun σ H Q h => ?_⟩
  obtain ⟨F, τ, P, I, ht, hq⟩ := h
  exact hq (.val false t) τ F H v ht I Stp.refl (rp F) trivial
theorem rep_tupK {K : PySem.W.Frag} {a : Addr} {od : Option Addr} {its : Array Value} {n : Nat} {sl : Array (Option Value)} {vs : List V} {ts : List T} (h : K.lookup a = some ⟨.type "tuple", od, .seq its n, sl⟩) (hz : its.size ≤ 1000) (hv : Vals vs its.toList) (hr : ∀ F, Reps K F ts vs) (F : Hp) :
    Rep K F (.tup ts) (.ref a) := by
  have sz := sizeLine_val
  refine ⟨a, vs, rfl, .inr ⟨_, its, n, h, rfl, rfl, by omega, hv⟩, ?_, hr F⟩
  rw [hv.length, Array.length_toList]
  omega
def ttLRg1 (te : TTE) : TTE := fun τ P => te τ fun r τ1 => inK (r.t τ1) fun n => RgOk 0 n ∧ P (.val true (.lst (rngT 0 n.toNat))) τ1
def ttLRg2 (ta tb : TTE) : TTE := fun τ P => ta τ fun ra τ1 => tb τ1 fun rb τ2 => inK (ra.t τ2) fun i => inK (rb.t τ2) fun j => RgOk i j ∧ P (.val true (.lst (rngT i (j - i).toNat))) τ2
def dgK (d k z : T) (P : T → Prop) : Prop := match d with
  | .dct ks ts => match keyT k with
    | some key => P ((dGetT ks ts key).getD z)
    | none => False
  | _ => False
def isDT : T → Prop
  | .dct _ _ => True
  | _ => False
def ttGet2 (td tk' tx : TTE) : TTE := fun τ P => td τ fun rd τ1 => isDT (rd.t τ1) ∧ tk' τ1 fun rk τ2 => tx τ2 fun rx τ3 => frzR rx τ3 fun z τ4 => dgK (rd.t τ4) (rk.t τ4) z fun t => P (.val false t) τ4
def minLT : C1 := fun t k => match t with
  | .lst ts => intsT ts fun ns => 0 < ns.length ∧ ∀ m : Int, m ∈ ns → (∀ y ∈ ns, m ≤ y) → k false (.int m)
  | _ => False
def maxLT : C1 := fun t k => match t with
  | .lst ts => intsT ts fun ns => 0 < ns.length ∧ ∀ m : Int, m ∈ ns → (∀ y ∈ ns, y ≤ m) → k false (.int m)
  | _ => False
theorem q_minL {ns : List Int} {k : Bool → T → Prop} : minLT (.lst (ns.map T.int)) k = (0 < ns.length ∧ ∀ m : Int, m ∈ ns → (∀ y ∈ ns, m ≤ y) → k false (.int m)) := by
  show intsT _ _ = _
  rw [intsT_map]
theorem q_maxL {ns : List Int} {k : Bool → T → Prop} : maxLT (.lst (ns.map T.int)) k = (0 < ns.length ∧ ∀ m : Int, m ∈ ns → (∀ y ∈ ns, y ≤ m) → k false (.int m)) := by
  show intsT _ _ = _
  rw [intsT_map]
def divmodT : CN := fun ts k => match ts with
  | [.int i, .int j] => (0 < j ∧ j.natAbs.log2 < 9000) ∧ k false (.tup [.int (i / j), .int (i % j)])
  | _ => False
theorem q_divmod {i j : Int} {k : Bool → T → Prop} : divmodT [.int i, .int j] k = ((0 < j ∧ j.natAbs.log2 < 9000) ∧ k false (.tup [.int (i / j), .int (i % j)])) := rf rfl
variable {τ : TSt} {P : R → TSt → Prop} {td tk' tx : TTE}
theorem z_lrg1 : ttLRg1 te τ P = te τ (@box _ ⟨fun r τ1 => inK (r.t τ1) (@box _ ⟨fun n => RgOk 0 n ∧ P (.val true (.lst (rngT 0 n.toNat))) τ1⟩)⟩) := rf rfl
theorem z_lrg2 : ttLRg2 ta tb τ P = ta τ (@box _ ⟨fun ra τ1 => tb τ1 (@box _ ⟨fun rb τ2 => inK (ra.t τ2) (@box _ ⟨fun i => inK (rb.t τ2) (@box _ ⟨fun j => RgOk i j ∧ P (.val true (.lst (rngT i (j - i).toNat))) τ2⟩)⟩)⟩)⟩) := rf rfl
theorem isD_d {ks : List Key} {ts : List T} : isDT (.dct ks ts) = True := rf rfl
theorem z_get2 : ttGet2 td tk' tx τ P = td τ (@box _ ⟨fun rd τ1 => isDT (rd.t τ1) ∧ tk' τ1 (@box _ ⟨fun rk τ2 => tx τ2 (@box _ ⟨fun rx τ3 => frzR rx τ3 (@box _ ⟨fun z τ4 => dgK (rd.t τ4) (rk.t τ4) z (@box _ ⟨fun t => P (.val false t) τ4⟩)⟩)⟩)⟩)⟩) := rf rfl
theorem dgK_i {ks : List Key} {ts : List T} {i : Int} {z : T} {P : T → Prop} : dgK (.dct ks ts) (.int i) z P = P ((dGetT ks ts (Sum.inl i)).getD z) := rf rfl
end
end TL

namespace TL
open PySem L2
end TL

namespace TL
open PySem L2
def fldG : List Str → List T → Str → Option T
  | n :: ns, t :: ts, f => if f = n then some t else fldG ns ts f
  | _, _, _ => none
def fldK (t : T) (f : Str) (k : T → Prop) : Prop := match t with
  | .ins ns ts => ∃ u, fldG ns ts f = some u ∧ k u
  | _ => False
def ttFld (f : Str) (te : TTE) : TTE := fun τ P => te τ fun r τ1 => fldK (r.t τ1) f fun t => P (.val false t) τ1
section
variable {X : Cx} {B : Bs} {e : Expr} {te : TTE} {pos : Pos} {f : Str}
variable {τ : TSt} {P : R → TSt → Prop}
theorem z_fld : ttFld f te τ P = te τ (@box _ ⟨fun r τ1 => fldK (r.t τ1) f (@box _ ⟨fun t => P (.val false t) τ1⟩)⟩) := rf rfl
theorem fldK_i {ns : List Str} {ts : List T} {k : T → Prop} : fldK (.ins ns ts) f k = (∃ u, fldG ns ts f = some u ∧ k u) := rf rfl
end
/-- the fields of a growth -/
abbrev gNs : List Str := ["rule", "numbers", "barred"]
theorem gn1 : ¬("numbers" : Str) = "rule" := by decide +kernel
theorem gn2 : ¬("barred" : Str) = "rule" := by decide +kernel
theorem gn3 : ¬("barred" : Str) = "numbers" := by decide +kernel
theorem fg_r {a b c : T} : fldG gNs [a, b, c] "rule" = some a := by unfold fldG; rw [if_pos rfl]
theorem fg_n {a b c : T} : fldG gNs [a, b, c] "numbers" = some b := by unfold fldG; rw [if_neg gn1]; unfold fldG; rw [if_pos rfl]
theorem fg_b {a b c : T} : fldG gNs [a, b, c] "barred" = some c := by unfold fldG; rw [if_neg gn2]; unfold fldG; rw [if_neg gn3]; unfold fldG; rw [if_pos rfl]
end TL

namespace TL
open PySem L2
abbrev zT (p : Int × Int) : T := .tup [.int p.1, .int p.2]
theorem zipP_ints : ∀ {xs ys : List Int}, zipP (xs.map T.int) (ys.map T.int) = (xs.zip ys).map zT
  | [], ys => by cases ys <;> simp [zipP]
  | x :: xs, [] => by simp [zipP]
  | x :: xs, y :: ys => by
    have := zipP_ints (xs := xs) (ys := ys)
    unfold zipP at this ⊢
    simp at this ⊢
    exact this
def zF (f : Int → Int → T) (t : T) : T := match t with
  | .tup [.int x, .int y] => f x y
  | t => t
section
variable {u : Lk} {τ1 : TSt} {g : TTG} {tt : TTT} {te : TTE} {vs : List Nat} {P : R → TSt → Prop} {xs ys : List Int}
theorem lcT_z (f : Int → Int → T) (hf : ∀ v ∈ vs, frzAt (lck u τ1) v) (hl : xs.length ≤ sizeLine)
    (h : ∀ x y, (x, y) ∈ xs.zip ys → g (.tup [.int x, .int y]) (wipeT (lck u τ1) vs) (@box _ ⟨fun τ3 => te τ3 (@box _ ⟨fun r τ5 => frzR r τ5 (@box _ ⟨fun z τ6 => f x y = z ∧ wipeT τ6 vs = wipeT (lck u τ1) vs⟩)⟩)⟩))
    (hd : P (.val true (.lst ((xs.zip ys).map fun p => f p.1 p.2))) (unl u τ1 (backT (lck u τ1) (wipeT (lck u τ1) vs) vs))) : lcT g ttYes te vs P (zipP (xs.map T.int) (ys.map T.int)) u τ1 := by
  rw [zipP_ints]
  refine lcT_m (zF f) hf (by rw [List.length_map, List.length_zip]; omega) (fun t ht => ?_) (by rw [List.map_map]; exact hd)
  obtain ⟨⟨x, y⟩, hp, rfl⟩ := List.mem_map.mp ht
  exact h x y hp
theorem lcT_zb (f : Int → Int → Bool) (hf : ∀ v ∈ vs, frzAt (lck u τ1) v) (hl : xs.length ≤ sizeLine)
    (h : ∀ x y, (x, y) ∈ xs.zip ys → g (.tup [.int x, .int y]) (wipeT (lck u τ1) vs) (@box _ ⟨fun τ3 => te τ3 (@box _ ⟨fun r τ5 => frzR r τ5 (@box _ ⟨fun z τ6 => T.bl (f x y) = z ∧ wipeT τ6 vs = wipeT (lck u τ1) vs⟩)⟩)⟩))
    (hd : P (.val true (.lst (((xs.zip ys).map fun p => f p.1 p.2).map T.bl))) (unl u τ1 (backT (lck u τ1) (wipeT (lck u τ1) vs) vs))) : lcT g ttYes te vs P (zipP (xs.map T.int) (ys.map T.int)) u τ1 :=
  lcT_z (fun x y => .bl (f x y)) hf hl h (by rw [List.map_map] at hd; exact hd)
end
theorem all_id {bs : List Bool} : bs.all _root_.id = true ↔ ∀ b ∈ bs, b = true := by simp
theorem pw_tail : ∀ {xs : List Int}, xs.Pairwise (· < ·) ↔ ∀ p ∈ xs.zip (xs.drop 1), p.1 < p.2
  | [] => by simp
  | [x] => by simp
  | x :: y :: r => by
    have ih := pw_tail (xs := y :: r)
    simp only [List.drop_succ_cons, List.drop_zero] at ih ⊢
    rw [List.pairwise_cons, ih, List.zip_cons_cons]
    constructor
    · rintro ⟨h1, h2⟩ p hp
      rcases List.mem_cons.mp hp with rfl | hp
      · exact h1 y List.mem_cons_self
      · exact h2 p hp
    · intro h
      have h2 : ∀ p ∈ (y :: r).zip r, p.1 < p.2 := fun p hp => h p (List.mem_cons_of_mem _ hp)
      refine ⟨fun z hz => ?_, h2⟩
      have hxy := h (x, y) List.mem_cons_self
      rcases List.mem_cons.mp hz with rfl | hz
      · exact hxy
      · have := (List.pairwise_cons.mp (ih.mpr h2)).1 z hz
        have hxy : x < y := hxy
        omega
end TL

namespace TL
open PySem L2
section
variable {X : Cx} {B : Bs} {ta tb tc : TTE} {a b c : Expr} {pos : Pos}
theorem chn_imp {g g' : G2} {r r' : R2} (hg : ∀ (F H : Hp) (x y : V) (tx ty : T) (G : Bool → T → Prop) (Q : VK), Same F H → RdT X.K F H x tx → RdT X.K F H y ty → g tx ty G →
    (∀ k t v F' H', G k t → Grow F H F' H' → RG X.K H F' H' v k t → Q v H') → r x y H Q)
    (hg' : ∀ (F H : Hp) (x y : V) (tx ty : T) (G : Bool → T → Prop) (Q : VK), Same F H → RdT X.K F H x tx → RdT X.K F H y ty → g' tx ty G →
    (∀ k t v F' H', G k t → Grow F H F' H' → RG X.K H F' H' v k t → Q v H') → r' x y H Q) (σ : St) (H : Hp) (Q : VK) (h : lift X.K B (ttChain g g' ta tb tc) σ H Q) : tChain r r' (lift X.K B ta) (lift X.K B tb) (lift X.K B tc) σ H Q := by
  obtain ⟨F, τ, P, I, ht, hq⟩ := h
  refine lift.go I ht fun ra τ1 F1 H1 x h1 I1 s1 r1 f1 => ?_
  refine lift.go I1 h1 fun rb τ2 F2 H2 y h2 I2 s2 r2 f2 => ?_
  refine hg F2 H2 x y _ _ _ _ I2.wf.sub ((r1.step s2).rd I2.wf) (r2.rd I2.wf) h2 fun k t v F' H' gk gr rg => ?_
  have I3 := I2.step (gr.wf I2.wf) gr.step
  cases t with
  | bl b =>
    have ev : v = .bl b := by
      cases k with
      | false => exact rg
      | true =>
        obtain ⟨_, _, _, _, z⟩ := rg
        exact z.elim
    subst ev
    refine ⟨b, rfl, ?_⟩
    cases b with
    | true =>
      rw [if_pos rfl]
      refine lift.go I3 gk fun rc τ3 F3 H3 z h3 I4 s3 r3 f3 => ?_
      obtain ⟨_, h3⟩ := h3
      refine hg' F3 H3 y z _ _ _ Q I4.wf.sub ((r2.step (gr.step.trans s3)).rd I4.wf) (r3.rd I4.wf) h3 fun k t v F' H' gk gr' rg => ?_
      obtain ⟨rr, fr⟩ := RG.rr I4.wf gr' rg
      exact hq _ _ _ _ _ gk (I4.step (gr'.wf I4.wf) gr'.step) ((((s1.trans s2).trans gr.step).trans s3).trans gr'.step) rr (Fresh.step (((s1.trans s2).trans gr.step).trans s3) fr)
    | false =>
      rw [if_neg Bool.false_ne_true]
      exact hq _ _ _ _ _ gk I3 ((s1.trans s2).trans gr.step) rfl trivial
  | _ => exact gk.elim
/-- a chain as a test -/
theorem tpt_chn {op op' : CmpOp} {g g' : G2} (ho : OpT X (compareOp op) g) (ho' : OpT X (compareOp op') g') (ha : TPE X B a ta) (hb : TPE X B b tb) (hc : TPE X B c tc) (hm : lastMarks [op, op'] [b, c] = false := by with_unfolding_all rfl) :
    TPT X B (.Compare a [op, op'] [b, c] pos) (ttB (ttChain g g' ta tb tc)) := by
  obtain ⟨r, hr, hg⟩ := ho
  obtain ⟨r', hr', hg'⟩ := ho'
  exact ⟨PT.imp (pt_chain hr hr' ha.pe hb.pe hc.pe hm) fun σ H Q h => chn_imp hg hg' σ H _ (test_imp σ H Q h)⟩
end
end TL

namespace TL
open PySem L2
end TL

namespace TL
open PySem L2
section
variable {u : Lk} {τ1 : TSt} {g : TTG} {tt : TTT} {te : TTE} {vs : List Nat} {P : R → TSt → Prop} {α : Type}
end
end TL

namespace TL
open PySem PySem.W L2
section
variable {X : Cx}
end
end TL

namespace TL
open PySem PySem.Spec PyProof.Rows L2
def ttRaise (c : String) (XT : String → TSt → Prop) : TTS := fun _ τ => XT c τ
/-- a class of the text whose instances are raised, and asked -/
structure ExF (K : PySem.W.Frag) (mg : Str → Option Value) (cls : String → Addr) (c : String) (y : Str) : Prop where
  g : mg y = some (.ref (cls c))
  x : PySem.W.excIn K (cls c) [.type "ValueError", .type "Exception", .type "BaseException", .type "object"] "ValueError.__new__" = true
  k : PySem.W.keepIn K (.ref (cls c)) = true
  b : PySem.W.subIn K (.ref (cls c)) (.type "BaseException") = some true
  t : PySem.W.typeIn K (.ref (cls c)) = some (.type "type")
/-- a class that is asked alone -/
structure ExG (K : PySem.W.Frag) (mg : Str → Option Value) (cls : String → Addr) (c : String) (y : Str) : Prop where
  g : mg y = some (.ref (cls c))
section
variable {X : Cx} {B : Bs} {cls : String → Addr} {XT : String → TSt → Prop} {c : String} {e : Expr} {pos p p2 : Pos} {y m : Str} {j : Nat}
end
section
variable {X : Cx} {B : Bs} {k : Nat} {ps : List Str} {cls : String → Addr} {S : TSp} {XT : String → TSt → Prop} {ta : TTA} {E : XK} {x : Str} {p pos : Pos} {e : Expr} {es : List Expr}
end
def noLk (τ : TSt) : Bool := τ.all fun o => match o with
  | some s => !s.l
  | none => true
def offD (i : Nat) (D : TEnds) : TEnds := ⟨fun τ => D.nx (τ.set i none), D.rt, fun τ => D.bk (τ.set i none), fun τ => D.ct (τ.set i none)⟩
def tryX (i : Nat) (cs : List String) (ts : String → V → TTS) (D : TEnds) : String → TSt → Prop := fun c τ1 => cs.contains c = true ∧ ∀ a : Addr, setS τ1 i ⟨.frz, false, .oth (.ref a)⟩ fun τ2 => ts c (.ref a) (offD i D) τ2
def ttTry (i : Nat) (cs : List String) (tb : (String → TSt → Prop) → TTS) (ts : String → V → TTS) : TTS := fun D τ => noLk τ = true ∧ tb (tryX i cs ts D) D τ
section
variable {K : PySem.W.Frag} {B : Bs} {F F' H H' : Hp} {σ σ' : L2.St} {τ τ' : TSt} {TD : TEnds} {D : Ends}
theorem Inn.base (I : Inn K B F H σ τ) : Inn K ⟨F, B.H, B.args⟩ F H σ τ := ⟨I.wf, fun _ _ h => h, fun _ h => .inl h, I.fr, I.dom, I.ow, I.ar⟩
end
section
variable {X : Cx} {B : Bs} {x n : Str} {C : Addr} {i : Nat} {body suite : List Stmt} {b₀ : Stmt} {np pos pos' : Pos} {cls : String → Addr} {cs : List String} {tb : (String → TSt → Prop) → TTS} {ts : String → V → TTS} {Wout : WX}
end
def isEK (o : Option (Option Sl)) (v : V) (p : Prop) : Prop := match o with
  | some (some ⟨.frz, _, .oth u⟩) => u = v ∧ p
  | _ => False
def ttIsE (i : Nat) (v : V) (b : Bool) : TTE := fun τ P => isEK τ[i]? v (P (.val false (.bl b)) τ)
theorem isEK.inv {o : Option (Option Sl)} {v : V} {p : Prop} (h : isEK o v p) : (∃ l, o = some (some ⟨.frz, l, .oth v⟩)) ∧ p := by
  unfold isEK at h
  split at h
  · rename_i l u
    obtain ⟨rfl, h⟩ := h
    exact ⟨⟨l, rfl⟩, h⟩
  · exact h.elim
theorem isEK_o {l : Bool} {v : V} {p : Prop} : isEK (some (some ⟨.frz, l, .oth v⟩)) v p = p := propext ⟨fun h => h.2, fun h => ⟨rfl, h⟩⟩
theorem z_isE {i : Nat} {v : V} {b : Bool} {τ : TSt} {P : R → TSt → Prop} : ttIsE i v b τ P = isEK τ[i]? v (P (.val false (.bl b)) τ) := rf rfl
/-- a class by its name -/
def ClN (X : Cx) (y : Str) (u : Value) : Prop := ∃ cv, ClsV cv u ∧ ∀ pos, PE X (.Name y pos) (tC cv)
section
variable {X : Cx} {y : Str} {C : Addr} {c : String}
theorem cln_own (hg : Gl X y) (hm : X.mg y = some (.ref C)) (hd : (y == ("__debug__" : Str)) = false := by decide) : ClN X y (.ref C) := ⟨.ref C, .own C, fun _ => pe_glob hg hm rfl hd⟩
theorem cln_ty (hg : Gl X y) (hm : X.mg y = none) (hv : bootBuiltins y = some (.type c)) (hn : y ≠ "__name__" := by decide) (hd : (y == ("__debug__" : Str)) = false := by decide) : ClN X y (.type c) := ⟨.ty c, .ty c, fun _ => pe_bltn hg hm hv rfl hn hd⟩
end
inductive ClNs (X : Cx) : List Expr → List Value → Prop where
  | nil : ClNs X [] []
  | cons {y : Str} {p : Pos} {u : Value} {es : List Expr} {us : List Value} (h : ClN X y u) (t : ClNs X es us) (hs : starEach (.Name y p :: es) X.env = (false, eval (.Name y p) X.env) :: starEach es X.env := by rfl) : ClNs X (.Name y p :: es) (u :: us)
theorem ClNs.pa {X : Cx} : ∀ {es : List Expr} {us : List Value}, ClNs X es us → ∃ cs, Paired ClsV cs us ∧ cs.length = es.length ∧ PA X es (fun _ H Q => Q cs H)
  | _, _, .nil => ⟨[], .nil, rfl, PA.imp pa_nil fun _ _ _ h => h⟩
  | _, _, .cons (es := es) h t hs => by
    obtain ⟨cs, h1, h2, h3⟩ := t.pa
    obtain ⟨cv, h4, h5⟩ := h
    exact ⟨cv :: cs, .cons h4 h1, by rw [List.length_cons, List.length_cons, h2], PA.imp (pa_cons (h5 _) h3 hs) fun _ _ _ h => h⟩
section
variable {X : Cx} {B : Bs} {a : Addr} {oe : Obj} {pn : List (Addr × Obj)} {cls : String → Addr} {c : String} {i : Nat} {n y : Str} {u : Value} {b : Bool} {p p1 p2 pos tpos : Pos} {es : List Expr} {us : List Value} {kk : Nat}
end
theorem FnOk_cls {P : Program} {w : World} {K : PySem.W.Frag} {mg : Str → Option Value} {base : Heap} {CX : CXT} {k : Nat} {f : Addr} {fd : FuncData} {ps : List Str} {S : TSp} {cls cls' : String → Addr} (F : FnOk P w K mg base CX k f fd ps (liftSp K cls S)) (h : ∀ as PR PX, S as PR PX → S as PR fun _ _ => False) : FnOk P w K mg base CX k f fd ps (liftSp K cls' S) :=
  F.imp fun vs H Q E q => by
    obtain ⟨Fh, as, PR, PX, ao, hs, hq, _⟩ := q
    exact ⟨Fh, as, PR, _, ao, h as PR PX hs, hq, fun _ _ _ _ z _ => z.elim⟩
end TL
namespace TL
open PySem PySem.Spec PyProof.Rows L2
def isSub (c : String) : List String → Bool
  | [] => false
  | n :: ns => (n == c || n == "ValueError" || n == "ShunError") || isSub c ns
theorem cs_two {c : String} : ∀ {cs : List String}, cs.contains c = true → c ∈ cs
  | x :: xs, h => by simpa using h
section
variable {X : Cx}
def mulST : G2 := fun a b k => match a, b with
  | .str z, .int n => (n = 0 ∧ k false (.str Str.empty)) ∨ (n = 1 ∧ k false (.str z))
  | _, _ => False
theorem q_mulS {z : Str} {b : Bool} {k : Bool → T → Prop} : mulST (.str z) (.int (b2i b)) k = k false (.str (if b = true then z else Str.empty)) := by
  apply propext
  cases b with
  | true => exact ⟨fun h => h.elim (fun q => by cases q.1) (fun q => q.2), fun h => .inr ⟨rfl, h⟩⟩
  | false => exact ⟨fun h => h.elim (fun q => q.2) (fun q => by cases q.1), fun h => .inl ⟨rfl, h⟩⟩
end
section
variable {i : Nat} {cs : List String} {tb : (String → TSt → Prop) → TTS} {ts : String → V → TTS} {D : TEnds} {τ : TSt} {c : String} {XT : String → TSt → Prop}
theorem z_try : ttTry i cs tb ts D τ = (noLk τ = true ∧ tb (tryX i cs ts D) D τ) := rf rfl
theorem noLk_c {k : Kd} {t : T} : noLk (some ⟨k, false, t⟩ :: τ) = noLk τ := by
  show (true && noLk τ) = noLk τ
  rw [Bool.true_and]
theorem noLk_n : noLk (none :: τ) = noLk τ := by
  show (true && noLk τ) = noLk τ
  rw [Bool.true_and]
theorem noLk_0 : noLk [] = true := rfl
theorem z_raise : ttRaise c XT D τ = XT c τ := rf rfl
theorem xt_e {as : List Sl} {PX : String → List T → Prop} : xtT as PX c τ = (keptA as τ ∧ PX c (outA as τ)) := rf rfl
theorem oD_rt : (offD i D).rt = D.rt := rf rfl
theorem oD_nx : (offD i D).nx = @box _ ⟨fun τ => D.nx (τ.set i none)⟩ := rf rfl
end
end TL

namespace TL
open PySem PySem.Spec PyProof.Rows L2
section
variable {X : Cx} {B : Bs} {tg : Expr}
def r2L (ts : List T) (τ : TSt) (P : List T → Lk → TSt → Prop) : Prop := match ts with
  | [.int i, .int j] => P (rngT i (j - i).toNat) none τ
  | _ => False
def tiRng2L (tl : TTL) : TTI := fun τ P => tl τ fun ts τ1 => r2L ts τ1 P
theorem r2L_i {i j : Int} {τ : TSt} {P : List T → Lk → TSt → Prop} : r2L [.int i, .int j] τ P = P (rngT i (j - i).toNat) none τ := rf rfl
theorem z_rng2L {tl : TTL} {τ : TSt} {Pi : List T → Lk → TSt → Prop} : tiRng2L tl τ Pi = tl τ (@box _ ⟨fun ts τ1 => r2L ts τ1 Pi⟩) := rf rfl
end
end TL

namespace TL
open PySem PySem.Spec PyProof.Rows L2
section
variable {X : Cx} {B : Bs} {k : Nat} {cls : String → Addr} {x x0 x1 : Str} {t : TA} {p p0 p1 pos pos2 : Pos} {d i e : Expr} {es : List Expr}
/-- what the two names may hold, the one at j is called -/
def two (isL : Bool) (f0 f1 : Addr) : HO := if isL then .lst [.ref f0, .ref f1] else .tup [.ref f0, .ref f1]
structure CalF (P : Program) (w : World) (K : PySem.W.Frag) (mg : Str → Option Value) (base : Heap) (CX : CXT) (k : Nat) (x : Str) (f : Addr) (sp : Sp) : Prop where
  ex : ∃ fd ps, FnOk P w K mg base CX k f fd ps sp ∧ mg x = some (.ref f) ∧ PySem.W.keepIn K (.ref f) = true ∧ Binds K fd ps []
variable {CX0' CX1' : CXT} {f0 f1 : Addr} {sp0 sp1 : Sp} {E : L2.St → XK} {ti : TE} {isL : Bool}
def pick2 (i : Int) (f g : Unit → Prop) : Prop := (i = 0 ∧ f ()) ∨ (i = 1 ∧ g ())
def ttCall2 (S0 S1 : TSp) (XT : String → TSt → Prop) (tti : TTE) (ta : TTA) : TTE := fun τ P => tti τ fun r τ1 => inK (r.t τ1) fun i => pick2 i (fun _ => ttCall S0 XT ta τ1 P) (fun _ => ttCall S1 XT ta τ1 P)
theorem z_call2 {S0 S1 : TSp} {XT : String → TSt → Prop} {tti : TTE} {ta : TTA} {τ : TSt} {P : R → TSt → Prop} : ttCall2 S0 S1 XT tti ta τ P = tti τ (@box _ ⟨fun r τ1 => inK (r.t τ1) (@box _ ⟨fun i => pick2 i (@box _ ⟨fun _ => ttCall S0 XT ta τ1 P⟩) (@box _ ⟨fun _ => ttCall S1 XT ta τ1 P⟩)⟩)⟩) := rf rfl
variable {S0 S1 : TSp} {XT : String → TSt → Prop} {tti : TTE} {ta : TTA} {W : WX}
/-- what a def of either kind keeps -/
structure CalP (P : Program) (w : World) (K : PySem.W.Frag) (mg : Str → Option Value) (base : Heap) (cls : String → Addr) (X : Cx) (W : WX) (k : Nat) (x : Str) (S : TSp) : Prop where
  ex : ∃ (CX : CXT) (f : Addr), CalF P w K mg base CX k x f (liftSp K cls S) ∧ ∀ σ, PassesAt CX X σ (WE W σ)
end
end TL

namespace TL
open PySem PySem.W PySem.Calls PyProof.Rows PyProof.V PySem.Spec L2
section
variable {P : Program} {w : World} {A : Around} {E : Value → Shared → Prop} {s : Shared} {a : Addr}
end
section
variable {X : Cx} {a : Expr} {ta : TE} {p p2 q pos : Pos}
end
section
variable {X : Cx} {B : Bs} {e : Expr} {te : TTE} {p p2 q pos : Pos}
def sortSetA : C1 := fun t k => match t with
  | .tup ts => intsT ts fun ns => ns.length ≤ 4000 ∧ ∀ ms : List Int, ms.Pairwise (· < ·) → (∀ x, x ∈ ms ↔ x ∈ ns) → k true (.lst (ms.map T.int))
  | .lst ts => intsT ts fun ns => ns.length ≤ 4000 ∧ ∀ ms : List Int, ms.Pairwise (· < ·) → (∀ x, x ∈ ms ↔ x ∈ ns) → k true (.lst (ms.map T.int))
  | _ => False
theorem q_sortSetA0 {ns : List Int} {k : Bool → T → Prop} : sortSetA (.tup (ns.map T.int)) k = (ns.length ≤ 4000 ∧ ∀ ms : List Int, ms.Pairwise (· < ·) → (∀ x, x ∈ ms ↔ x ∈ ns) → k true (.lst (ms.map T.int))) := by
  show intsT _ _ = _
  rw [intsT_map]
theorem q_sortSetA1 {ns : List Int} {k : Bool → T → Prop} : sortSetA (.lst (ns.map T.int)) k = (ns.length ≤ 4000 ∧ ∀ ms : List Int, ms.Pairwise (· < ·) → (∀ x, x ∈ ms ↔ x ∈ ns) → k true (.lst (ms.map T.int))) := by
  show intsT _ _ = _
  rw [intsT_map]
end
end TL

namespace TL
open PySem PySem.Spec PyProof.Rows L2
section
variable {X : Cx} {B : Bs} {e a b : Expr} {te ta tb : TTE} {p p2 q pos : Pos}
def ttTRg2 (ta tb : TTE) : TTE := fun τ P => ta τ fun ra τ1 => tb τ1 fun rb τ2 => inK (ra.t τ2) fun i => inK (rb.t τ2) fun j => RgOk i j ∧ P (.val false (.tup (rngT i (j - i).toNat))) τ2
theorem z_trg2 {τ : TSt} {P : R → TSt → Prop} : ttTRg2 ta tb τ P = ta τ (@box _ ⟨fun ra τ1 => tb τ1 (@box _ ⟨fun rb τ2 => inK (ra.t τ2) (@box _ ⟨fun i => inK (rb.t τ2) (@box _ ⟨fun j => RgOk i j ∧ P (.val false (.tup (rngT i (j - i).toNat))) τ2⟩)⟩)⟩)⟩) := rf rfl
end
end TL

namespace TL
open PySem PySem.W PySem.Calls PyProof.Rows PyProof.V PySem.Spec L2
/-- from the last one down to the one behind hi -/
def dnN : Option Int → Nat
  | none => 0
  | some h => (h + 1).toNat
section
variable {prog : Program} {w : World} {A : Around} {E : Value → Shared → Prop} {s : Shared}
end
section
variable {X : Cx}
end
section
variable {X : Cx} {B : Bs} {e : Expr} {te : TTE}
def dnT (hi : Option Int) : C1 := fun t k => match t with
  | .tup ts => dnN hi ≤ ts.length ∧ k false (.tup (ts.drop (dnN hi)).reverse)
  | .lst ts => hi = none ∧ k true (.lst ts.reverse)
  | _ => False
theorem q_dn0 {ts : List T} {k : Bool → T → Prop} : dnT none (.tup ts) k = k false (.tup ts.reverse) := by
  show (0 ≤ ts.length ∧ k false (.tup (ts.drop 0).reverse)) = _
  simp
theorem q_dn1 {ts : List T} {k : Bool → T → Prop} : dnT none (.lst ts) k = k true (.lst ts.reverse) := by
  show (_ ∧ _) = _
  simp
theorem q_dn2 {ts : List T} {k : Bool → T → Prop} : dnT (some 1) (.tup ts) k = (2 ≤ ts.length ∧ k false (.tup (ts.drop 2).reverse)) := rf rfl
end
end TL

namespace TL
open PySem PySem.Spec PyProof.Rows L2
def d4 (x : Str) : Option Int := if x = "evens" then some 2 else if x = "sums" then some 2 else if x = "pairs" then some 3 else if x = "gaps" then some 1 else none
section
variable {X : Cx} {B : Bs} {e : Expr} {te : TTE} {p1 p2 p3 p4 q1 q2 q3 q4 dp pos : Pos} {j1 j2 j3 j4 i1 i2 i3 i4 : Nat}
def d4T : C1 := fun t k => match t with
  | .str x => ∃ v, d4 x = some v ∧ k false (.int v)
  | _ => False
theorem q_d4e {k : Bool → T → Prop} : d4T (.str "evens") k = k false (.int 2) := by
  show (∃ v, d4 "evens" = some v ∧ k false (.int v)) = _
  rw [show d4 "evens" = some 2 by decide +kernel]; simp
theorem q_d4s {k : Bool → T → Prop} : d4T (.str "sums") k = k false (.int 2) := by
  show (∃ v, d4 "sums" = some v ∧ k false (.int v)) = _
  rw [show d4 "sums" = some 2 by decide +kernel]; simp
theorem q_d4p {k : Bool → T → Prop} : d4T (.str "pairs") k = k false (.int 3) := by
  show (∃ v, d4 "pairs" = some v ∧ k false (.int v)) = _
  rw [show d4 "pairs" = some 3 by decide +kernel]; simp
theorem q_d4g {k : Bool → T → Prop} : d4T (.str "gaps") k = k false (.int 1) := by
  show (∃ v, d4 "gaps" = some v ∧ k false (.int v)) = _
  rw [show d4 "gaps" = some 1 by decide +kernel]; simp
end
end TL

namespace TL
open PySem PySem.Spec PyProof.Rows L2
def LenSetN (ns : List Int) (k : Int → Prop) : Prop := ns.length ≤ 4000 ∧ ∀ ms : List Int, ms.Nodup → (∀ x, x ∈ ms ↔ x ∈ ns) → k ms.length
section
variable {X : Cx} {a : Expr} {ta : TE} {p p2 q pos : Pos}
end
section
variable {X : Cx} {B : Bs} {e : Expr} {te : TTE} {p p2 q pos : Pos}
def lenSetU : C1 := fun t k => match t with
  | .tup ts => intsT ts fun ns => LenSetN ns fun i => k false (.int i)
  | _ => False
theorem q_lenSetU {ns : List Int} {k : Bool → T → Prop} : lenSetU (.tup (ns.map T.int)) k = LenSetN ns fun i => k false (.int i) := by
  show intsT _ _ = _
  rw [intsT_map]
end
end TL

namespace SrtO
open PySem PyProof.Rows Srt
section
variable {prog : Program} {w : World} {A : Around} {E : Value → Shared → Prop} {s : Shared}
end
end SrtO
namespace TL
open PySem PySem.Spec PyProof.Rows L2
section
variable {X : Cx}
def sortTupT : C1 := fun t k => match t with
  | .tup ts => intsT ts fun ns => k true (.lst ((srt ns).map T.int))
  | _ => False
theorem q_sortTup {ts : List T} {k : Bool → T → Prop} : sortTupT (.tup ts) k = intsT ts fun ns => k true (.lst ((srt ns).map T.int)) := rf rfl
end
end TL

namespace TL
open PySem PySem.Spec PyProof.Rows L2
def sumUp (a : Int) (n : Nat) : Int := preSum (fun i => a + (i : Nat) * 1) n
section
variable {X : Cx} {B : Bs} {e : Expr} {te : TTE} {p p2 q pos : Pos}
def ttSumRg1 (te : TTE) : TTE := fun τ P => te τ fun r τ1 => inK (r.t τ1) fun n => RgOk 0 n ∧ P (.val false (.int (sumUp 0 n.toNat))) τ1
theorem z_sumRg1 {τ : TSt} {P : R → TSt → Prop} : ttSumRg1 te τ P = te τ (@box _ ⟨fun r τ1 => inK (r.t τ1) (@box _ ⟨fun n => RgOk 0 n ∧ P (.val false (.int (sumUp 0 n.toNat))) τ1⟩)⟩) := rf rfl
end
end TL

namespace TL
open PySem PySem.Spec PyProof.Rows L2
section
variable {X : Cx} {pins : List (Addr × Obj)} {σ : L2.St} {H : Hp} {s : Shared}
end
def inB (neg : Bool) : G2 := fun a b k => match b with
  | .bdt ks _ => ∃ bs : List Bool, a = .tup (bs.map T.bl) ∧ k false (.bl (neg != decide (bs ∈ ks)))
  | _ => False
section
variable {X : Cx}
end
def bGet (ks : List (List Bool)) (ts : List T) (k : List Bool) : Option T := ((ks.zip ts).find? fun kv => decide (kv.1 = k)).map (·.2)
section
variable {X : Cx} {B : Bs} {a b : Expr} {ta tb : TTE} {pos : Pos}
def ttIxB (ta tb : TTE) : TTE := fun τ P => ta τ fun ra τ1 => tb τ1 fun rb τ2 => ixB (ra.t τ2) (rb.t τ2) fun t => P (.val false t) τ2
where ixB : T → T → (T → Prop) → Prop := fun a b k => match a with
  | .bdt ks ts => ∃ (bs : List Bool) (t : T), b = .tup (bs.map T.bl) ∧ bGet ks ts bs = some t ∧ k t
  | _ => False
def ttDictB : TTE := fun τ P => P (.val true (.bdt [] [])) τ
end
section
variable {X : Cx} {B : Bs}
def stIxB (τ : TSt) (i : Nat) (k v : T) (P : TSt → Prop) : Prop := match τ[i]? with
  | some (some ⟨.own, false, .bdt ks ts⟩) => ∃ bs : List Bool, k = .tup (bs.map T.bl) ∧ bs ∉ ks ∧ ks.length < sizeLine ∧ P (τ.set i (some ⟨.own, false, .bdt (ks ++ [bs]) (ts ++ [v])⟩))
  | _ => False
def ttSetIxB (i : Nat) (te ti : TTE) : TTS := fun D τ => te τ fun r τ1 => frzR r τ1 fun t τ2 => (∃ s, τ2[i]? = some (some s)) ∧ ti τ2 fun ri τ3 => stIxB τ3 i (ri.t τ3) t D.nx
end
def sxBK (o : Option (Option Sl)) (τ : TSt) (i : Nat) (k v : T) (P : TSt → Prop) : Prop := match o with
  | some (some ⟨.own, false, .bdt ks ts⟩) => ∃ bs : List Bool, k = .tup (bs.map T.bl) ∧ bs ∉ ks ∧ ks.length < sizeLine ∧ P (τ.set i (some ⟨.own, false, .bdt (ks ++ [bs]) (ts ++ [v])⟩))
  | _ => False
theorem stIxB_eq {τ : TSt} {i : Nat} {k v : T} {P : TSt → Prop} : stIxB τ i k v P = sxBK τ[i]? τ i k v P := rf rfl
theorem sxBK_o {τ : TSt} {i : Nat} {ks : List (List Bool)} {ts : List T} {k v : T} {P : TSt → Prop} : sxBK (some (some ⟨.own, false, .bdt ks ts⟩)) τ i k v P = ∃ bs : List Bool, k = .tup (bs.map T.bl) ∧ bs ∉ ks ∧ ks.length < sizeLine ∧ (@box _ ⟨fun c' => P (τ.set i (some ⟨.own, false, c'⟩))⟩) (.bdt (ks ++ [bs]) (ts ++ [v])) := rf rfl
section
variable {τ : TSt} {P : R → TSt → Prop} {D : TEnds} {ta tb te ti : TTE} {i : Nat}
theorem z_dB : ttDictB τ P = P (.val true (.bdt [] [])) τ := rf rfl
theorem z_ixB : ttIxB ta tb τ P = ta τ (@box _ ⟨fun ra τ1 => tb τ1 (@box _ ⟨fun rb τ2 => ttIxB.ixB (ra.t τ2) (rb.t τ2) (@box _ ⟨fun t => P (.val false t) τ2⟩)⟩)⟩) := rf rfl
theorem z_setIxB : ttSetIxB i te ti D τ = te τ (@box _ ⟨fun r τ1 => frzR r τ1 (@box _ ⟨fun t τ2 => (∃ s, τ2[i]? = some (some s)) ∧ ti τ2 (@box _ ⟨fun ri τ3 => stIxB τ3 i (ri.t τ3) t D.nx⟩)⟩)⟩) := rf rfl
theorem q_ixB {ks : List (List Bool)} {ts : List T} {b : T} {k : T → Prop} : ttIxB.ixB (.bdt ks ts) b k = ∃ (bs : List Bool) (t : T), b = .tup (bs.map T.bl) ∧ bGet ks ts bs = some t ∧ k t := rf rfl
theorem q_inB {neg : Bool} {ks : List (List Bool)} {ts : List T} {a : T} {k : Bool → T → Prop} : inB neg a (.bdt ks ts) k = ∃ bs : List Bool, a = .tup (bs.map T.bl) ∧ k false (.bl (neg != decide (bs ∈ ks))) := rf rfl
end
end TL

namespace L2
open PySem PySem.Spec PyProof.Rows
section
variable {X : Cx}
end
end L2
namespace TL
open PySem PySem.Spec PyProof.Rows L2
/-- a tuple times 0 or 1 -/
def mulTT : G2 := fun a b k => match a, b with
  | .tup xs, .int j => xs ≠ [] ∧ (j = 0 ∨ j = 1) ∧ k false (.tup (if j = 1 then xs else []))
  | _, _ => False
section
variable {X : Cx}
theorem q_mulTT {xs : List T} {j : Int} {k : Bool → T → Prop} : mulTT (.tup xs) (.int j) k = (xs ≠ [] ∧ (j = 0 ∨ j = 1) ∧ k false (.tup (if j = 1 then xs else []))) := rf rfl
end
end TL

namespace TL
open PySem PySem.Spec PyProof.Rows L2
def stK (t : T) (k : Str → Prop) : Prop := match t with
  | .str a => k a
  | _ => False
theorem stK_s {a : Str} {k : Str → Prop} : stK (.str a) k = k a := rf rfl
section
variable {X : Cx} {B : Bs} {a b : Expr} {ta tb : TTE} {apos pos : Pos}
def joinT : Str → T → (T → Prop) → Prop := fun a b k => match b with
  | .lst ts => ∃ ys : List Str, ts = ys.map T.str ∧ (ys.map (·.length)).sum + ys.length * a.length ≤ 16777216 ∧ k (.str (Txt.join a ys))
  | _ => False
def ttJoin (ta tb : TTE) : TTE := fun τ P => ta τ fun ra τ1 => stK (ra.t τ1) fun x => tb τ1 fun rb τ2 => joinT x (rb.t τ2) fun t => P (.val false t) τ2
theorem z_join {τ : TSt} {P : R → TSt → Prop} : ttJoin ta tb τ P = ta τ (@box _ ⟨fun ra τ1 => stK (ra.t τ1) (@box _ ⟨fun x => tb τ1 (@box _ ⟨fun rb τ2 => joinT x (rb.t τ2) (@box _ ⟨fun t => P (.val false t) τ2⟩)⟩)⟩)⟩) := rf rfl
theorem joinT_l {a : Str} {ts : List T} {k : T → Prop} : joinT a (.lst ts) k = ∃ ys : List Str, ts = ys.map T.str ∧ (ys.map (·.length)).sum + ys.length * a.length ≤ 16777216 ∧ k (.str (Txt.join a ys)) := rf rfl
def ttSplit (ta tb : TTE) : TTE := fun τ P => ta τ fun ra τ1 => stK (ra.t τ1) fun x => tb τ1 fun rb τ2 => stK (rb.t τ2) fun y => ((y.length == 0) = false ∧ x.length + 2 ≤ sizeLine ∧ (Txt.split x y).length ≤ sizeLine) ∧ P (.val true (.lst ((Txt.split x y).map T.str))) τ2
theorem z_split {τ : TSt} {P : R → TSt → Prop} : ttSplit ta tb τ P = ta τ (@box _ ⟨fun ra τ1 => stK (ra.t τ1) (@box _ ⟨fun x => tb τ1 (@box _ ⟨fun rb τ2 => stK (rb.t τ2) (@box _ ⟨fun y => ((y.length == 0) = false ∧ x.length + 2 ≤ sizeLine ∧ (Txt.split x y).length ≤ sizeLine) ∧ P (.val true (.lst ((Txt.split x y).map T.str))) τ2⟩)⟩)⟩)⟩) := rf rfl
def ttPartn (ta tb : TTE) : TTE := fun τ P => ta τ fun ra τ1 => stK (ra.t τ1) fun x => tb τ1 fun rb τ2 => stK (rb.t τ2) fun y => ((y.length == 0) = false ∧ x.length ≤ sizeLine) ∧ P (.val false (.tup [.str (Txt.partition x y).1, .str (Txt.partition x y).2.1, .str (Txt.partition x y).2.2])) τ2
theorem z_partn {τ : TSt} {P : R → TSt → Prop} : ttPartn ta tb τ P = ta τ (@box _ ⟨fun ra τ1 => stK (ra.t τ1) (@box _ ⟨fun x => tb τ1 (@box _ ⟨fun rb τ2 => stK (rb.t τ2) (@box _ ⟨fun y => ((y.length == 0) = false ∧ x.length ≤ sizeLine) ∧ P (.val false (.tup [.str (Txt.partition x y).1, .str (Txt.partition x y).2.1, .str (Txt.partition x y).2.2])) τ2⟩)⟩)⟩)⟩) := rf rfl
/-- x or y, x a text -/
def ttOrS (ta tb : TTE) : TTE := fun τ P => ta τ fun ra τ1 => stK (ra.t τ1) fun x => x.length ≤ sizeLine ∧ if x.length = 0 then tb τ1 P else P (.val false (.str x)) τ1
theorem z_orS {τ : TSt} {P : R → TSt → Prop} : ttOrS ta tb τ P = ta τ (@box _ ⟨fun ra τ1 => stK (ra.t τ1) (@box _ ⟨fun x => x.length ≤ sizeLine ∧ cnd (decide (x.length = 0)) (@box _ ⟨fun _ => tb τ1 P⟩) (@box _ ⟨fun _ => P (.val false (.str x)) τ1⟩)⟩)⟩) := by
  unfold ttOrS box cnd
  congr 1
  funext ra τ1
  congr 1
  funext x
  by_cases h : x.length = 0
  · simp [h]
  · simp [h]
end
theorem q_seq_3 {z : Str} {k : List T → Prop} : seqI (.str z) k = k (signs z) := rf rfl
theorem q_int_2 {z : Str} {k : Bool → T → Prop} : (intC (.str z) k) = ∃ n, PySem.intText? z = some n ∧ z.length ≤ 640 ∧ k false (.int n) := rf rfl
theorem q_str_0 {i : Int} {k : Bool → T → Prop} : (strC (.int i) k) = (i.natAbs.log2 < 1920 ∧ k false (.str (toString i))) := rf rfl
end TL

namespace TL
open PySem PySem.W PySem.Calls PyProof.Rows PyProof.V PySem.Spec L2
section
variable {prog : Program} {w : World} {A : Around} {E : Value → Shared → Prop} {s : Shared}
def revS (z : Str) : Str := ⟨((Builtin.Str.strSliceIndices none none (-1) z.length).filterMap (z.cps[·]?)).toArray⟩
end
section
variable {X : Cx}
end
section
variable {X : Cx}
end
section
variable {X : Cx} {B : Bs} {e a b c : Expr} {te ta tb tc : TTE} {p pos cpos : Pos}
def ttRevS (te : TTE) : TTE := fun τ P => te τ fun r τ1 => stK (r.t τ1) fun x => x.length ≤ sizeLine ∧ P (.val false (.str (revS x))) τ1
theorem z_revS {τ : TSt} {P : R → TSt → Prop} : ttRevS te τ P = te τ (@box _ ⟨fun r τ1 => stK (r.t τ1) (@box _ ⟨fun x => x.length ≤ sizeLine ∧ P (.val false (.str (revS x))) τ1⟩)⟩) := rf rfl
/-- c in range(a, b) -/
def ttInRg (tc ta tb : TTE) : TTE := fun τ P => tc τ fun rc τ1 => ta τ1 fun ra τ2 => tb τ2 fun rb τ3 => inK (rc.t τ3) fun i => inK (ra.t τ3) fun lo => inK (rb.t τ3) fun hi => P (.val false (.bl (decide (lo ≤ i ∧ i < hi)))) τ3
theorem z_inRg {τ : TSt} {P : R → TSt → Prop} : ttInRg tc ta tb τ P = tc τ (@box _ ⟨fun rc τ1 => ta τ1 (@box _ ⟨fun ra τ2 => tb τ2 (@box _ ⟨fun rb τ3 => inK (rc.t τ3) (@box _ ⟨fun i => inK (ra.t τ3) (@box _ ⟨fun lo => inK (rb.t τ3) (@box _ ⟨fun hi => P (.val false (.bl (decide (lo ≤ i ∧ i < hi)))) τ3⟩)⟩)⟩)⟩)⟩)⟩) := rf rfl
/-- c not in range(a, b) -/
def ttNiRg (tc ta tb : TTE) : TTE := fun τ P => tc τ fun rc τ1 => ta τ1 fun ra τ2 => tb τ2 fun rb τ3 => inK (rc.t τ3) fun i => inK (ra.t τ3) fun lo => inK (rb.t τ3) fun hi => P (.val false (.bl (!decide (lo ≤ i ∧ i < hi)))) τ3
theorem z_niRg {τ : TSt} {P : R → TSt → Prop} : ttNiRg tc ta tb τ P = tc τ (@box _ ⟨fun rc τ1 => ta τ1 (@box _ ⟨fun ra τ2 => tb τ2 (@box _ ⟨fun rb τ3 => inK (rc.t τ3) (@box _ ⟨fun i => inK (ra.t τ3) (@box _ ⟨fun lo => inK (rb.t τ3) (@box _ ⟨fun hi => P (.val false (.bl (!decide (lo ≤ i ∧ i < hi)))) τ3⟩)⟩)⟩)⟩)⟩)⟩) := rf rfl
end
end TL

namespace TL
open PySem PySem.Spec PyProof.Rows L2
section
variable {X : Cx}
def MSOk (z : Str) (n : Int) : Prop := 0 < z.length ∧ z.length ≤ 1000 ∧ 2 ≤ n ∧ n ≤ 1000
def mulSG : G2 := fun a b k => match a, b with
  | .str z, .int n => MSOk z n ∧ k false (.str (Txt.mul z n))
  | _, _ => False
theorem q_mulSG {z : Str} {n : Int} {k : Bool → T → Prop} : mulSG (.str z) (.int n) k = (MSOk z n ∧ k false (.str (Txt.mul z n))) := rf rfl
end
end TL

namespace TL
open PySem PySem.Spec PyProof.Rows L2
open PySem (wpAny_tupleHeld_enum)
section
variable {prog : Program} {w : World} {A : Around} {E : Value → Shared → Prop} {s : Shared}
end
section
variable {X : Cx} {a : Expr} {ta : TE} {p p2 q pos : Pos}
end
def enKs (k n : Nat) : List Key := (List.range n).map fun i => .inl ((k + i : Nat) : Int)
section
variable {X : Cx} {B : Bs} {e : Expr} {te : TTE} {p p2 q pos : Pos}
def dictEnT (b : Bool) : C1 := fun t k => match t, b with
  | .tup ts, false => k true (.dct (enKs 0 ts.length) ts)
  | .lst ts, true => k true (.dct (enKs 0 ts.length) ts)
  | _, _ => False
theorem z_dictEnF {ts : List T} {k} : dictEnT false (.tup ts) k = k true (.dct (enKs 0 ts.length) ts) := rf rfl
theorem z_dictEnT {ts : List T} {k} : dictEnT true (.lst ts) k = k true (.dct (enKs 0 ts.length) ts) := rf rfl
end
end TL

namespace TL
open PySem PySem.Spec PyProof.Rows L2
def rgCI (i c : Int) (n : Nat) : List Int := (List.range n).map fun k => i + (k : Nat) * c
section
variable {X : Cx} {a b c e : Expr} {ta : TA} {p p2 q pos : Pos}
end
section
variable {X : Cx} {B : Bs} {a b c : Expr} {tl : TTL} {p p2 q pos : Pos}
def r3C (n : Nat) (ts : List T) (τ : TSt) (P : R → TSt → Prop) : Prop := match ts with
  | [.int i, .int j, .int k] => (RgC i j k n ∧ n ≤ 1000) ∧ P (.val false (.tup ((rgCI i k n).map T.int))) τ
  | _ => False
def ttTRgC (n : Nat) (tl : TTL) : TTE := fun τ P => tl τ fun ts τ1 => r3C n ts τ1 P
theorem r3C_i {n : Nat} {i j k : Int} {τ : TSt} {P : R → TSt → Prop} : r3C n [.int i, .int j, .int k] τ P = ((RgC i j k n ∧ n ≤ 1000) ∧ P (.val false (.tup ((rgCI i k n).map T.int))) τ) := rf rfl
theorem z_trgC {n : Nat} {τ : TSt} {P : R → TSt → Prop} : ttTRgC n tl τ P = tl τ (@box _ ⟨fun ts τ1 => r3C n ts τ1 P⟩) := rf rfl
end
end TL

namespace TL
open PySem PySem.Spec PyProof.Rows L2
open PySem.SeqAt
open PySem.MeetsSeq PySem.MeetsSeq2 PySem.MeetsSeq3
section
variable {prog : Program} {w : World} {A : Around} {E : Value → Shared → Prop} {s : Shared}
end
section
variable {X : Cx}
end
def cutG (c a b v : T) (P : T → Prop) : Prop := match c, a, b, v with
  | .lst ts, .int i, .int j, .lst us => (0 ≤ i ∧ i ≤ j ∧ ts.length + us.length ≤ sizeLine) ∧ P (.lst (ts.take i.toNat ++ us ++ ts.drop j.toNat))
  | _, _, _, _ => False
theorem q_cutG {ts us : List T} {i j : Int} {P : T → Prop} : cutG (.lst ts) (.int i) (.int j) (.lst us) P = ((0 ≤ i ∧ i ≤ j ∧ ts.length + us.length ≤ sizeLine) ∧ P (.lst (ts.take i.toNat ++ us ++ ts.drop j.toNat))) := rf rfl
def sxCut (o : Option (Option Sl)) (τ : TSt) (i : Nat) (a b v : T) (P : TSt → Prop) : Prop := match o with
  | some (some ⟨.own, false, c⟩) => cutG c a b v fun c' => P (τ.set i (some ⟨.own, false, c'⟩))
  | _ => False
theorem sxCut_o {τ : TSt} {i : Nat} {c a b v : T} {P : TSt → Prop} : sxCut (some (some ⟨.own, false, c⟩)) τ i a b v P = cutG c a b v (@box _ ⟨fun c' => P (τ.set i (some ⟨.own, false, c'⟩))⟩) := rf rfl
section
variable {X : Cx} {B : Bs} {te tl th : TTE} {i : Nat} {D : TEnds} {τ : TSt}
def ttSetCut (i : Nat) (te tl th : TTE) : TTS := fun D τ => te τ fun r τ1 => frzR r τ1 fun t τ2 => (∃ s, τ2[i]? = some (some s)) ∧ tl τ2 fun ra τ3 => th τ3 fun rb τ4 => sxCut τ4[i]? τ4 i (ra.t τ4) (rb.t τ4) t D.nx
theorem z_setCut : ttSetCut i te tl th D τ = te τ (@box _ ⟨fun r τ1 => frzR r τ1 (@box _ ⟨fun t τ2 => (∃ s, τ2[i]? = some (some s)) ∧ tl τ2 (@box _ ⟨fun ra τ3 => th τ3 (@box _ ⟨fun rb τ4 => sxCut τ4[i]? τ4 i (ra.t τ4) (rb.t τ4) t D.nx⟩)⟩)⟩)⟩) := rf rfl
end
end TL

namespace TL
open PySem PySem.Spec PyProof.Rows L2
section
variable {X : Cx} {B : Bs} {e a b c : Expr} {te ta tb tc : TTE} {p pos cpos : Pos}
end
end TL

namespace TL
open PySem PySem.Spec PyProof.Rows L2
section
variable {K : PySem.W.Frag} {F F' H H' : Hp} {d : Addr} {od : Obj} {kvs : List (Key × V)}
/-- F' is F with the dict at d unlocked -/
structure Unl (F F' : Hp) (d : Addr) (od : Obj) (kvs : List (Key × V)) : Prop where
  at1 : F d = some (.frz od (.dK kvs))
  at2 : F' d = some (.dK kvs)
  ne : ∀ a, a ≠ d → F' a = F a
theorem Unl.get (s : Unl F F' d od kvs) {a : Addr} {o : HO} (h : F a = some o) (n : ∀ o' u, o ≠ .frz o' u) : F' a = some o := by
  by_cases e : a = d
  · subst e
    rw [s.at1] at h
    cases h
    exact absurd rfl (n _ _)
  · rw [s.ne a e]; exact h
theorem Unl.rd (s : Unl F F' d od kvs) {a : Addr} {o : HO} (h : Rd F a o) (n : ∀ o' u, o ≠ .frz o' u) : Rd F' a o := by
  rcases h with h | ⟨o', h⟩
  · exact .inl (s.get h n)
  · by_cases e : a = d
    · subst e
      rw [s.at1] at h
      cases h
      exact .inl s.at2
    · exact .inr ⟨o', by rw [s.ne a e]; exact h⟩
theorem Unl.sqT (s : Unl F F' d od kvs) {a : Addr} {xs : List V} (h : SqT K F a xs) : SqT K F' a xs := h.elim (fun h => .inl (s.rd h fun _ _ z => nomatch z)) .inr
theorem Unl.sqL (s : Unl F F' d od kvs) {a : Addr} {xs : List V} (h : SqL K F a xs) : SqL K F' a xs := h.elim (fun h => .inl (s.rd h fun _ _ z => nomatch z)) .inr
mutual
theorem Unl.rep (s : Unl F F' d od kvs) : ∀ (t : T) (v : V), Rep K F t v → Rep K F' t v
  | .non, _, h => h
  | .bl _, _, h => h
  | .int _, _, h => h
  | .str _, _, h => h
  | .tup ts, _, ⟨a, vs, e, q, z, r⟩ => ⟨a, vs, e, s.sqT q, z, Unl.reps s ts vs r⟩
  | .lst ts, _, ⟨a, vs, e, q, z, r⟩ => ⟨a, vs, e, s.get q (fun _ _ z => nomatch z), z, Unl.reps s ts vs r⟩
  | .dct ks ts, _, ⟨a, kvs, e, q, z, k, r⟩ => ⟨a, kvs, e, s.rd q (fun _ _ z => nomatch z), z, k, Unl.reps s ts _ r⟩
  | .scr _, _, ⟨a, e, q, z⟩ => ⟨a, e, s.sqL q, z⟩
  | .oth _, _, h => h
  | .ins _ ts, _, ⟨a, C, dx, vs, e, q, c, n, l, r⟩ => ⟨a, C, dx, vs, e, s.get q (fun _ _ z => nomatch z), c, n, l, Unl.reps s ts vs r⟩
  | .bdt _ ts, _, ⟨a, xs, e, q, z, k, t, r⟩ => ⟨a, xs, e, s.get q (fun _ _ z => nomatch z), z, k, fun x hx => s.sqT (t x hx), Unl.reps s ts _ r⟩
  | .obj _ _, _, h => h
  | .lat _ _, _, h => h
  | .exn _, _, ⟨a, C, e, h, n⟩ => ⟨a, C, e, s.get h (fun _ _ z => nomatch z), n⟩
theorem Unl.reps (s : Unl F F' d od kvs) : ∀ (ts : List T) (vs : List V), Reps K F ts vs → Reps K F' ts vs
  | [], _, h => h
  | t :: ts, _, ⟨v, r, e, h1, h2⟩ => ⟨v, r, e, Unl.rep s t v h1, Unl.reps s ts r h2⟩
end
end
/-- a key as a tree -/
def kT : Key → T
  | .inl i => .int i
  | .inr x => .str x
section
variable {X : Cx} {B : Bs}
/-- the locked dict as a source -/
def tiD (i : Nat) (d : V) (ks : List Key) : TTI := fun τ P => τ[i]? = some (some ⟨.frz, false, .oth d⟩) ∧ P (ks.map kT) none τ
def lcDK (ti : TTI) (g : TTG) (tt : TTT) (te : TTE) (vs : List Nat) (i : Nat) (τ : TSt) (P : R → TSt → Prop) (d : V) (t : T) : Prop :=
  ttLc ti g tt te vs (τ.set i (some ⟨.frz, false, .oth d⟩)) (@box _ ⟨fun r τ1 => P r (τ1.set i (some ⟨.frz, false, t⟩))⟩)
def lcDT (g : TTG) (tt : TTT) (te : TTE) (vs : List Nat) (i : Nat) (o : Option (Option Sl)) (τ : TSt) (P : R → TSt → Prop) : Prop := match o with
  | some (some ⟨.own, false, .dct ks ts⟩) => ∀ d : V, lcDK (tiD i d ks) g tt te vs i τ P d (.dct ks ts)
  | _ => False
def ttLcD (i : Nat) (g : TTG) (tt : TTT) (te : TTE) (vs : List Nat) : TTE := fun τ P => lcDT g tt te vs i τ[i]? τ P
theorem lcDT_o {g : TTG} {tt : TTT} {te : TTE} {vs : List Nat} {i : Nat} {τ : TSt} {P : R → TSt → Prop} {ks : List Key} {ts : List T} : lcDT g tt te vs i (some (some ⟨.own, false, .dct ks ts⟩)) τ P = ∀ d : V, lcDK (tiD i d ks) g tt te vs i τ P d (.dct ks ts) := rf rfl
theorem z_lcD {g : TTG} {tt : TTT} {te : TTE} {vs : List Nat} {i : Nat} {τ : TSt} {P : R → TSt → Prop} : ttLcD i g tt te vs τ P = lcDT g tt te vs i τ[i]? τ P := rf rfl
theorem z_lcDK {ti : TTI} {g : TTG} {tt : TTT} {te : TTE} {vs : List Nat} {i : Nat} {τ : TSt} {P : R → TSt → Prop} {d : V} {t : T} : lcDK ti g tt te vs i τ P d t = ttLc ti g tt te vs (τ.set i (some ⟨.frz, false, .oth d⟩)) (@box _ ⟨fun r τ1 => P r (τ1.set i (some ⟨.frz, false, t⟩))⟩) := rf rfl
theorem z_tiD {i : Nat} {d : V} {ks : List Key} {τ : TSt} {Pi : List T → Lk → TSt → Prop} : tiD i d ks τ Pi = (τ[i]? = some (some ⟨.frz, false, .oth d⟩) ∧ Pi (ks.map kT) none τ) := rf rfl
theorem kT_ints {zs : List Int} : (zs.map (Sum.inl : Int → Key)).map kT = zs.map T.int := by rw [List.map_map]; rfl
end
end TL

namespace TL
open PySem PySem.Spec PyProof.Rows L2 L2H
/-- what a def does when it is called where p's object stands pinned -/
def RunPin (P : Program) (w : World) (K : PySem.W.Frag) (mg : Str → Option Value) (base : Heap) (k : Nat) (f : Addr) (fd : FuncData) (ps : List Str) (sp : Addr × Obj → Sp) : Prop :=
  (∀ p vs H Q E, sp p vs H Q E → vs.length = ps.length) ∧
  ∀ (A : Around) (outer : List Env) (s : Shared) (H : Hp) (args : Args) (us : List Value) (vs : List V) (Q : VK) (E : XK) (p : Addr × Obj), RoomH k A → PinOk outer H s p → Env0 P w K mg base A outer s H → BindsTo s fd args (ps.zip us) → Vals vs us → sp p vs H Q E →
    codeAny (model P w) A (.call (.ref f) args) (CR CX0 outer P w H s Q E) s
section
variable {P : Program} {w : World} {K : PySem.W.Frag} {mg : Str → Option Value} {base : Heap} {x qual : Str} {st : Stmt} {f : Addr} {fd : FuncData} {N ps : List Str} {k : Nat} {sp : Addr × Obj → Sp}
end
section
variable {X : Cx} {a : Addr} {oe : Obj} {pn : List (Addr × Obj)} {k : Nat} {f : Addr} {fd : FuncData} {ps : List Str} {sp : Addr × Obj → Sp} {x : Str} {q pos : Pos} {e : Expr} {es : List Expr} {t : TA}
end
section
variable {X : Cx} {B : Bs} {cls : String → Addr} {c : String} {i : Nat} {n y : Str} {u : Value} {b : Bool} {p p1 p2 pos : Pos}
/-- the promise: the kinds of the exception, as a new list of truths -/
def spPin (cls : String → Addr) (cs : String → Bool) (kinds : String → List Bool) : Addr × Obj → Sp := fun ap vs H Q _ => ∃ c, vs = [.ref ap.1] ∧ cs c = true ∧ Zc (.ref (cls c)) none ap.2 ∧ (∃ ws, ap.2.data = .fields ws) ∧ (kinds c).length ≤ sizeLine ∧
  ∀ v H', (∃ q, v = .ref q ∧ H q = none ∧ H' q = some (.lst ((kinds c).map V.bl))) → (∀ b o, H b = some o → H' b = some o) → Q v H'
def ttKd (i : Nat) (v : V) (bs : List Bool) : TTE := fun τ P => isEK τ[i]? v (P (.val true (.lst (bs.map T.bl))) τ)
theorem z_kd {i : Nat} {v : V} {bs : List Bool} {τ : TSt} {P : R → TSt → Prop} : ttKd i v bs τ P = isEK τ[i]? v (P (.val true (.lst (bs.map T.bl))) τ) := rf rfl
structure CalPin (P : Program) (w : World) (K : PySem.W.Frag) (mg : Str → Option Value) (base : Heap) (cls : String → Addr) (x : Str) (ps : List Str) (k : Nat) (cs : String → Bool) (kinds : String → List Bool) : Prop where
  ex : ∃ f fd, RunPin P w K mg base k f fd ps (spPin cls cs kinds) ∧ mg x = some (.ref f) ∧ PySem.W.keepIn K (.ref f) = true ∧ Binds K fd ps []
end
end TL

namespace TL
open PySem PySem.Spec PyProof.Rows L2
section
variable {X : Cx} {pins : List (Addr × Obj)} {σ σ' : L2.St} {H : Hp} {s : Shared}
def Gho (X : Cx) (i : Nat) : Prop := ∃ x, X.N[i]? = some x ∧ X.env.scope.names.lookup x = none
/-- states that differ in ghosts alone -/
def GEq (X : Cx) (σ σ' : L2.St) : Prop := σ'.length = σ.length ∧ ∀ (i : Nat) (v : V), σ'[i]? = some (some v) → σ[i]? = some (some v) ∨ Gho X i
end
def liftGh (n : Nat) (K : PySem.W.Frag) (cls : String → Addr) (S : TSp) : Sp := fun vs H Q E => ∃ gs : List V, gs.length = n ∧ liftSp K cls S (vs ++ gs) H Q E
def hasG : List Nat → TSt → Prop
  | [], _ => True
  | g :: gs, τ => (∃ s, τ[g]? = some (some s)) ∧ hasG gs τ
def callG (S : TSp) (XT : String → TSt → Prop) (rs : List R) (τ : TSt) (P : R → TSt → Prop) : Prop := varsOk rs = true ∧
  S (mkA τ 0 rs) (fun r ts => ts.length = rs.length ∧ putB rs ts τ fun τ2 => P r τ2) (fun c ts => ts.length = rs.length ∧ putB rs ts τ fun τ2 => XT c τ2)
section
variable {K : PySem.W.Frag} {B : Bs} {F0 H0 F H : Hp} {σ : L2.St} {τ0 τ : TSt} {S : TSp} {XT : String → TSt → Prop} {rs rs' : List R} {vs vs' : List V} {P : R → TSt → Prop} {Q : VK} {E : XK} {cls : String → Addr}
end
def ttCallG (S : TSp) (XT : String → TSt → Prop) (gs : List Nat) (ta : TTA) : TTE := fun τ P => ta τ fun rs τ1 => hasG gs τ1 ∧ callG S XT (rs ++ gs.map R.var) τ1 P
structure CalG (n : Nat) (P : Program) (w : World) (K : PySem.W.Frag) (mg : Str → Option Value) (base : Heap) (CX : CXT) (cls : String → Addr) (x : Str) (ps : List Str) (k : Nat) (S : TSp) : Prop where
  ex : ∃ f fd, FnOk P w K mg base CX k f fd ps (liftGh n K cls S) ∧ mg x = some (.ref f) ∧ PySem.W.keepIn K (.ref f) = true ∧ Binds K fd ps []
section
variable {X : Cx} {B : Bs} {k : Nat} {ps : List Str} {cls : String → Addr} {S : TSp} {XT : String → TSt → Prop} {ta : TTA} {x : Str} {p pos : Pos} {e : Expr} {es : List Expr} {gs : List Nat} {n : Nat}
end
section
variable {P : Program} {w : World} {K : PySem.W.Frag} {mg : Str → Option Value} {base : Heap} {cls : String → Addr}
end
section
variable {τ : TSt} {P : R → TSt → Prop} {S : TSp} {XT : String → TSt → Prop} {ta : TTA} {gs : List Nat} {g : Nat} {rs : List R}
theorem hasG_n : hasG [] τ = True := rf rfl
theorem hasG_c : hasG (g :: gs) τ = ((∃ s, τ[g]? = some (some s)) ∧ hasG gs τ) := rf rfl
theorem z_gl : callG S XT rs τ P = (varsOk rs = true ∧ S (mkA τ 0 rs) (@box _ ⟨fun r ts => ts.length = rs.length ∧ putB rs ts τ (@box _ ⟨fun τ2 => P r τ2⟩)⟩) (@box _ ⟨fun c ts => ts.length = rs.length ∧ putB rs ts τ (@box _ ⟨fun τ2 => XT c τ2⟩)⟩)) := rf rfl
theorem z_callG : ttCallG S XT gs ta τ P = ta τ (@box _ ⟨fun rs τ1 => hasG gs τ1 ∧ callG S XT (rs ++ gs.map R.var) τ1 P⟩) := rf rfl
end
end TL

namespace TL
open PySem PySem.Spec PyProof.Rows L2
/-- the object in a slot, met by its address -/
def objK (o : Option (Option Sl)) (t : T) (k : List T → Prop) : Prop := match o, t with
  | some (some ⟨.own, _, .obj u ts⟩), .oth v => u = v ∧ k ts
  | some (some ⟨.arg _, _, .obj u ts⟩), .oth v => u = v ∧ k ts
  | _, _ => False
def latK (o : Option (Option Sl)) (t : T) (k : List T → Prop) : Prop := match o, t with
  | some (some ⟨.own, _, .lat u ts⟩), .oth v => u = v ∧ k ts
  | some (some ⟨.arg _, _, .lat u ts⟩), .oth v => u = v ∧ k ts
  | _, _ => False
def nthK (ts : List T) (j : Nat) (k : T → Prop) : Prop := match ts[j]? with
  | some t => k t
  | none => False
def ttFldG (g j : Nat) (te : TTE) : TTE := fun τ P => te τ fun r τ1 => objK τ1[g]? (r.t τ1) fun ts => nthK ts j fun t => P (.val false t) τ1
section
variable {X : Cx} {B : Bs} {e : Expr} {f : Str} {pos : Pos} {te : TTE} {g j : Nat}
end
def prK (t : T) (k : T → T → Prop) : Prop := match t with
  | .tup [a, b] => k a b
  | _ => False
/-- the object in slot g goes to other fields -/
def objM (o : Option (Option Sl)) (g : Nat) (τ : TSt) (t : T) (f : List T → List T) (P : TSt → Prop) : Prop := match o, t with
  | some (some ⟨.own, false, .obj u ts⟩), .oth v => u = v ∧ P (τ.set g (some ⟨.own, false, .obj u (f ts)⟩))
  | some (some ⟨.arg j, false, .obj u ts⟩), .oth v => u = v ∧ P (τ.set g (some ⟨.arg j, false, .obj u (f ts)⟩))
  | _, _ => False
def ttSet2G (g i j1 j2 : Nat) (te : TTE) : TTS := fun D τ => te τ fun r τ1 => frzR r τ1 fun t τ2 => prK t fun a b => objM τ2[g]? g τ2 (slT τ2 i) (fun ts => (ts.set j1 a).set j2 b) D.nx
section
variable {X : Cx} {B : Bs} {e : Expr} {f1 f2 x : Str} {p p1 p2 p3 p4 p5 pos : Pos} {te : TTE} {g i j1 j2 k : Nat}
end
end TL

namespace TL
open PySem PySem.Spec PyProof.Rows L2
section
variable {X : Cx} {CX : CXT} {k : Nat} {f C : Addr} {fd : FuncData} {ps : List Str} {sp : Sp} {E : L2.St → XK} {m : Str} {pos apos : Pos} {e o : Expr} {es : List Expr} {ta : TE} {t : TA}
end
/-- a method of the class, as it is called -/
structure MetG (n : Nat) (P : Program) (w : World) (K : PySem.W.Frag) (mg : Str → Option Value) (base : Heap) (CX : CXT) (cls : String → Addr) (m : Str) (ps : List Str) (k : Nat) (S : TSp) : Prop where
  ex : ∃ C f fd, PySem.W.nsIn K mainGlobals "Desk" = some (some (.ref C)) ∧ FnOk P w K mg base CX k f fd ps (liftGh n K cls S) ∧ Meth K C m f ∧ Binds K fd ps []
def ttMethG (S : TSp) (XT : String → TSt → Prop) (g : Nat) (gs : List Nat) (te : TTE) (ta : TTA) : TTE := fun τ P => te τ fun r τ1 => frzR r τ1 fun t τ2 => objK τ2[g]? t fun _ => ta τ2 fun rs τ3 => hasG gs τ3 ∧ callG S XT (.val false t :: (rs ++ gs.map R.var)) τ3 P
section
variable {X : Cx} {B : Bs} {k : Nat} {ps : List Str} {cls : String → Addr} {S : TSp} {XT : String → TSt → Prop} {te : TTE} {ta : TTA} {m : Str} {pos apos : Pos} {o e : Expr} {es : List Expr} {gs : List Nat} {g n : Nat}
end
def ttAppG (g : Nat) (te : TTE) (tl : TTL) (mg : MG) : TTE := fun τ P => te τ fun r τ1 => latK τ1[g]? (r.t τ1) fun _ => tl τ1 fun ts τ2 => mutS τ2 g ts mg P
def appLG : MG := fun t ts k => match t, ts with
  | .lat u us, [x] => us.length < sizeLine ∧ k (.lat u (us ++ [x])) .non
  | _, _ => False
def popLG : MG := fun t ts k => match t, ts with
  | .lat u us, [] => ∃ x, us[us.length - 1]? = some x ∧ k (.lat u us.dropLast) x
  | _, _ => False
def popG : MG := fun t ts k => match t, ts with
  | .lst us, [] => ∃ x, us[us.length - 1]? = some x ∧ k (.lst us.dropLast) x
  | _, _ => False
theorem Reps.dropLast {K : PySem.W.Frag} {F : Hp} {ts : List T} {vs : List V} (h : Reps K F ts vs) : Reps K F ts.dropLast vs.dropLast := by
  rw [List.dropLast_eq_take, List.dropLast_eq_take, h.len]
  exact Reps.take _ h
section
variable {X : Cx} {B : Bs} {es : List Expr} {e o : Expr} {te : TTE} {tl : TTL} {g i : Nat} {mg : MG} {name : Str} {apos cpos : Pos} {id : String} {x : Str} {pos : Pos}
end
end TL

namespace TL
open PySem PySem.Spec PyProof.Rows L2
def ttNilG (g : Nat) (te : TTE) : TTT := fun τ P => te τ fun r τ1 => latK τ1[g]? (r.t τ1) fun ts => eqOk (.lst ts) = true ∧ P ts.isEmpty τ1
section
variable {X : Cx} {B : Bs} {o : Expr} {te : TTE} {g : Nat} {pos p : Pos}
end
def spDI (C : Addr) : Sp := fun vs H Q _ => ∃ p dx, vs = [.ref p] ∧ H p = some (.ins C dx []) ∧ ∀ a1 a2 q H', H a1 = none → H a2 = none → H q = none → a1 ≠ a2 → a1 ≠ q → a2 ≠ q → (∀ b o, b ≠ p → H b = some o → H' b = some o) →
  H' p = some (.ins C dx (deskNs.zip [.ref a1, .ref a2, .ref q])) → H' a1 = some (.tup [.str "evens"]) → H' a2 = some (.tup [.int 1]) → H' q = some (.lst []) → Q .non H'
/-- a new one, its two tuples and its list -/
structure NewD (K : PySem.W.Frag) (H H' : Hp) (p q a1 a2 : Addr) : Prop where
  np : H p = none
  nq : H q = none
  n1 : H a1 = none
  n2 : H a2 = none
  pq : p ≠ q
  p1 : p ≠ a1
  p2 : p ≠ a2
  d12 : a1 ≠ a2
  q1 : a1 ≠ q
  q2 : a2 ≠ q
  same : Same H H'
  ob : ∃ C dx, PySem.W.nsIn K mainGlobals "Desk" = some (some (.ref C)) ∧ H' p = some (.ins C dx (deskNs.zip [.ref a1, .ref a2, .ref q]))
  h1 : H' a1 = some (.tup [.str "evens"])
  h2 : H' a2 = some (.tup [.int 1])
  hq : H' q = some (.lst [])
/-- how the class is made, as callers see it -/
structure MakG (P : Program) (w : World) (K : PySem.W.Frag) (mg : Str → Option Value) (base : Heap) (k : Nat) : Prop where
  ex : ∃ C f fd, PySem.W.nsIn K mainGlobals "Desk" = some (some (.ref C)) ∧ mg "Desk" = some (.ref C) ∧ Mk K C f ∧ FnOk P w K mg base CX0 k f fd ["self"] (spDI C) ∧ Binds K fd ["self"] []
section
variable {X : Cx} {B : Bs} {k : Nat} {pos p : Pos}
end
section
variable {K : PySem.W.Frag} {B : Bs} {F H H' : Hp} {σ : L2.St} {τ : TSt} {p q a1 a2 : Addr}
theorem owns_set {i j : Nat} {x : Option V} {k' k : Kd} {l' : Bool} {t' : T} {a : Addr} (h : Owns (σ.set i x) (τ.set i (some ⟨k', l', t'⟩)) j k a) : (j = i ∧ k = k' ∧ (i < σ.length → x = some (.ref a))) ∨ Owns σ τ j k a := by
  obtain ⟨l, t, h1, h2, h3⟩ := h
  rcases set_get h1 with ⟨hj, z, hl⟩ | ⟨hj, z⟩
  · cases z
    subst hj
    refine .inl ⟨rfl, rfl, fun hs => ?_⟩
    rw [List.getElem?_set_self hs] at h3
    exact Option.some.inj h3
  · rw [List.getElem?_set_ne (Ne.symm hj)] at h3
    exact .inr ⟨l, t, z, h2, h3⟩
theorem owns_some (w : WF K F H σ τ) {i : Nat} {k : Kd} {a : Addr} (h : Owns σ τ i k a) : H a ≠ none := by
  obtain ⟨l, t, h1, h2, h3⟩ := h
  obtain ⟨b, e, _, o⟩ := w.own i k l t h1 h2
  rw [h3] at e
  cases e
  obtain ⟨ob, ho⟩ := o.ex
  rw [ho]
  simp
def newT (u q : V) : T := .obj u [.tup [.str "evens"], .tup [.int 1], .oth q]
end
def ttNewG (i g1 g2 : Nat) : TTS := fun D τ => ∀ u q : V, setS τ i ⟨.frz, false, .oth u⟩ fun τ1 => setS τ1 g1 ⟨.own, false, newT u q⟩ fun τ2 => setS τ2 g2 ⟨.own, false, .lat q []⟩ D.nx
section
variable {X : Cx} {B : Bs} {k i g1 g2 : Nat} {x y1 y2 : Str} {pos p pos' pos'' : Pos}
end
end TL

namespace TL
open PySem PySem.Spec PyProof.Rows L2
section
variable {X : Cx}
end
section
variable {τ : TSt} {P : R → TSt → Prop} {Pb : Bool → TSt → Prop} {S : TSp} {XT : String → TSt → Prop} {te : TTE} {ta : TTA} {tl : TTL} {gs : List Nat} {g i j j1 j2 g1 g2 : Nat} {D : TEnds} {u : V} {ts : List T} {l : Bool} {k : List T → Prop} {kt : T → Prop} {kp : T → T → Prop} {t a b : T} {f : List T → List T} {Pg : TSt → Prop} {mg : MG} {km : T → T → Prop} {us : List T} {x : T}
theorem objK_o : objK (some (some ⟨.own, l, .obj u ts⟩)) (.oth u) k = k ts := propext ⟨fun h => h.2, fun h => ⟨rfl, h⟩⟩
theorem objK_a : objK (some (some ⟨.arg j, l, .obj u ts⟩)) (.oth u) k = k ts := propext ⟨fun h => h.2, fun h => ⟨rfl, h⟩⟩
theorem latK_o : latK (some (some ⟨.own, l, .lat u ts⟩)) (.oth u) k = k ts := propext ⟨fun h => h.2, fun h => ⟨rfl, h⟩⟩
theorem latK_a : latK (some (some ⟨.arg j, l, .lat u ts⟩)) (.oth u) k = k ts := propext ⟨fun h => h.2, fun h => ⟨rfl, h⟩⟩
theorem nthK_0 : nthK (t :: ts) 0 kt = kt t := rf rfl
theorem nthK_1 : nthK (a :: t :: ts) 1 kt = kt t := rf rfl
theorem nthK_2 : nthK (a :: b :: t :: ts) 2 kt = kt t := rf rfl
theorem prK_2 : prK (.tup [a, b]) kp = kp a b := rf rfl
theorem objM_o : objM (some (some ⟨.own, false, .obj u ts⟩)) g τ (.oth u) f Pg = Pg (τ.set g (some ⟨.own, false, .obj u (f ts)⟩)) := propext ⟨fun h => h.2, fun h => ⟨rfl, h⟩⟩
theorem objM_a : objM (some (some ⟨.arg j, false, .obj u ts⟩)) g τ (.oth u) f Pg = Pg (τ.set g (some ⟨.arg j, false, .obj u (f ts)⟩)) := propext ⟨fun h => h.2, fun h => ⟨rfl, h⟩⟩
theorem z_fldG : ttFldG g j te τ P = te τ (@box _ ⟨fun r τ1 => objK τ1[g]? (r.t τ1) (@box _ ⟨fun ts => nthK ts j (@box _ ⟨fun t => P (.val false t) τ1⟩)⟩)⟩) := rf rfl
theorem z_set2G : ttSet2G g i j1 j2 te D τ = te τ (@box _ ⟨fun r τ1 => frzR r τ1 (@box _ ⟨fun t τ2 => prK t (@box _ ⟨fun a b => objM τ2[g]? g τ2 (slT τ2 i) (fun ts => (ts.set j1 a).set j2 b) D.nx⟩)⟩)⟩) := rf rfl
theorem z_methG : ttMethG S XT g gs te ta τ P = te τ (@box _ ⟨fun r τ1 => frzR r τ1 (@box _ ⟨fun t τ2 => objK τ2[g]? t (@box _ ⟨fun _ => ta τ2 (@box _ ⟨fun rs τ3 => hasG gs τ3 ∧ callG S XT (.val false t :: (rs ++ gs.map R.var)) τ3 P⟩)⟩)⟩)⟩) := rf rfl
theorem z_appG : ttAppG g te tl mg τ P = te τ (@box _ ⟨fun r τ1 => latK τ1[g]? (r.t τ1) (@box _ ⟨fun _ => tl τ1 (@box _ ⟨fun ts τ2 => mutS τ2 g ts mg P⟩)⟩)⟩) := rf rfl
theorem z_nilG : ttNilG g te τ Pb = te τ (@box _ ⟨fun r τ1 => latK τ1[g]? (r.t τ1) (@box _ ⟨fun ts => eqOk (.lst ts) = true ∧ Pb ts.isEmpty τ1⟩)⟩) := rf rfl
theorem z_newG : ttNewG i g1 g2 D τ = ∀ u q : V, setS τ i ⟨.frz, false, .oth u⟩ (@box _ ⟨fun τ1 => setS τ1 g1 ⟨.own, false, newT u q⟩ (@box _ ⟨fun τ2 => setS τ2 g2 ⟨.own, false, .lat q []⟩ D.nx⟩)⟩) := rf rfl
theorem q_appL : appLG (.lat u us) [x] km = (us.length < sizeLine ∧ km (.lat u (us ++ [x])) .non) := rf rfl
theorem q_popL : popLG (.lat u us) [] km = ∃ x, us[us.length - 1]? = some x ∧ km (.lat u us.dropLast) x := rf rfl
theorem q_pop0 : popG (.lst us) [] km = ∃ x, us[us.length - 1]? = some x ∧ km (.lst us.dropLast) x := rf rfl
theorem vg_12 : ((!(1 : Nat) == 2) = true) = True := by decide
theorem vg_23 : ((!(2 : Nat) == 3) = true) = True := by decide
theorem vg_34 : ((!(3 : Nat) == 4) = true) = True := by decide
end
end TL

namespace TL
open PySem PySem.Spec PyProof.Rows L2
section
variable {prog : Program} {w : World} {A : Around} {E : Value → Shared → Prop}
end
section
variable {X : Cx}
section
variable {K : PySem.W.Frag} {F H : Hp}
end
/-- a method of a name's own dict -/
def dctK : Option (Option Sl) → Prop := fun o => match o with
  | some (some ⟨.own, false, .dct _ _⟩) => True
  | some (some ⟨.arg _, false, .dct _ _⟩) => True
  | _ => False
theorem dctK_o {ks ts} : dctK (some (some ⟨.own, false, .dct ks ts⟩)) = True := rfl
theorem dctK_a {j ks ts} : dctK (some (some ⟨.arg j, false, .dct ks ts⟩)) = True := rfl
theorem dctK.inv {o : Option (Option Sl)} (h : dctK o) : ∃ k ks ts, o = some (some ⟨k, false, .dct ks ts⟩) ∧ k ≠ .frz := by
  unfold dctK at h
  split at h
  · exact ⟨_, _, _, rfl, by simp⟩
  · exact ⟨_, _, _, rfl, by simp⟩
  · exact h.elim
def ttMutD (i : Nat) (tl : TTL) (g : MG) : TTE := fun τ P => dctK τ[i]? ∧ tl τ fun ts τ1 => mutS τ1 i ts g P
theorem z_mutD {i tl mg τ} {P : R → TSt → Prop} : ttMutD i tl mg τ P = (dctK τ[i]? ∧ tl τ (@box _ ⟨fun ts τ1 => mutS τ1 i ts mg P⟩)) := rf rfl
variable {B : Bs} {es : List Expr} {e : Expr} {tl : TTL} {i : Nat} {g : MG} {name : Str} {apos cpos : Pos} {id : String} {x : Str} {pos : Pos}
end
end TL

namespace TL
open PySem PySem.Spec PyProof.Rows L2
section
variable {K : PySem.W.Frag}
def litT : Nat → HX.Lit → T
  | _, .non => .non
  | _, .bl b => .bl b
  | _, .int i => .int i
  | _, .str x => .str x
  | 0, .tup _ => .non
  | n + 1, .tup ts => .tup (ts.map (litT n))
theorem litA_ok {t : HX.Lit} {u : Value} {n : Nat} (h : HX.litA t u = true) : ∃ v, RelV v u ∧ ∀ F, Rep K F (litT n t) v := by
  cases t with
  | non => cases u with
    | none => exact ⟨.non, rfl, fun _ => by cases n <;> rfl⟩
    | _ => cases h
  | bl b => cases u with
    | bool c =>
      have h1 : (b == c) = true := h
      rw [eq_of_beq h1]
      exact ⟨.bl c, rfl, fun _ => by cases n <;> rfl⟩
    | _ => cases h
  | int i => cases u with
    | int j t =>
      have e : i = j := of_decide_eq_true h
      exact ⟨.int i, ⟨t, by rw [e]⟩, fun _ => by cases n <;> rfl⟩
    | _ => cases h
  | str x => cases u with
    | str y t =>
      have e : x = y := of_decide_eq_true h
      exact ⟨.str x, ⟨t, by rw [e]⟩, fun _ => by cases n <;> rfl⟩
    | _ => cases h
  | tup _ => cases h
theorem litAll_ok {f : HX.Lit → Value → Bool} {g : HX.Lit → T} (hf : ∀ t u, f t u = true → ∃ v, RelV v u ∧ ∀ F, Rep K F (g t) v) : ∀ {ts : List HX.Lit} {us : List Value}, HX.litAll f ts us = true → ∃ vs, Vals vs us ∧ ∀ F, Reps K F (ts.map g) vs
  | [], [], _ => ⟨[], .nil, fun _ => rfl⟩
  | [], _ :: _, h => by cases h
  | _ :: _, [], h => by cases h
  | t :: ts, u :: us, h => by
    obtain ⟨h1, h2⟩ := Bool.and_eq_true_iff.mp (show (f t u && HX.litAll f ts us) = true from h)
    obtain ⟨v, a, b⟩ := hf t u h1
    obtain ⟨vs, c, d⟩ := litAll_ok hf h2
    exact ⟨v :: vs, .cons a c, fun F => ⟨v, vs, rfl, b F, d F⟩⟩
theorem litB_ok : ∀ (n : Nat) (t : HX.Lit) (u : Value), HX.litB K n t u = true → ∃ v, RelV v u ∧ ∀ F, Rep K F (litT n t) v
  | 0, _, _, h => litA_ok h
  | n + 1, t, u, h => by
    cases t with
    | tup ts =>
      cases u with
      | ref a =>
        have h1 : (match K.lookup a with
          | some ⟨.type c, _, .seq its _, _⟩ => decide (c = "tuple") && (decide (its.size ≤ 1000) && HX.litAll (HX.litB K n) ts its.toList)
          | _ => false) = true := h
        cases q : K.lookup a with
        | none =>
          rw [q] at h1
          cases h1
        | some o =>
          obtain ⟨oc, od, dt, osl⟩ := o
          rw [q] at h1
          cases oc with
          | type c =>
            cases dt with
            | seq its m =>
              obtain ⟨e1, e2⟩ := Bool.and_eq_true_iff.mp (show (decide (c = "tuple") && (decide (its.size ≤ 1000) && HX.litAll (HX.litB K n) ts its.toList)) = true from h1)
              obtain ⟨e3, e4⟩ := Bool.and_eq_true_iff.mp e2
              have ec : c = "tuple" := of_decide_eq_true e1
              subst ec
              obtain ⟨vs, hv, hr⟩ := litAll_ok (litB_ok n) e4
              exact ⟨.ref a, rfl, fun F => rep_tupK q (of_decide_eq_true e3) hv hr F⟩
            | _ => cases h1
          | _ => cases dt <;> cases h1
      | _ => cases h
    | non => exact litA_ok h
    | bl b => exact litA_ok h
    | int i => exact litA_ok h
    | str x => exact litA_ok h
theorem litG_ok {h : Heap} {mg : Str → Option Value} {x : Str} {l : HX.Lit} {t : T} (X : K.In h) (G : h.Ns mainGlobals mg) (c : HX.litG x l K = true) (e : litT 4 l = t) : ∃ v u, mg x = some u ∧ RelV v u ∧ ∀ F, Rep K F t v := by
  subst e
  unfold HX.litG at c
  cases e : PySem.W.nsIn K mainGlobals x with
  | none =>
    rw [e] at c
    cases c
  | some o =>
    rw [e] at c
    cases o with
    | none => cases c
    | some u =>
      obtain ⟨v, a, b⟩ := litB_ok 4 l u c
      exact ⟨v, u, PySem.W.mg_of X G e, a, b⟩
end
end TL

namespace TL
open PySem PySem.Spec PyProof.Rows L2
mutual
def lf0 : T → Bool
  | .non => true
  | .bl _ => true
  | .int _ => true
  | .str _ => true
  | .oth _ => true
  | .tup ts => lfs ts
  | _ => false
def lfs : List T → Bool
  | [] => true
  | t :: ts => lf0 t && lfs ts
end
section
variable {K : PySem.W.Frag} {B : Bs} {F F' H H' Fs : Hp} {σ : L2.St} {τ τs : TSt}
mutual
theorem Rep.lf (h : ∀ a xs, Rd F a (.tup xs) → Rd F' a (.tup xs)) : ∀ (t : T) (v : V), lf0 t = true → Rep K F t v → Rep K F' t v
  | .non, _, _, r => r
  | .bl _, _, _, r => r
  | .int _, _, _, r => r
  | .str _, _, _, r => r
  | .oth _, _, _, r => r
  | .tup ts, _, e, ⟨a, vs, ea, q, z, r⟩ => ⟨a, vs, ea, q.elim (fun q => .inl (h a vs q)) .inr, z, Reps.lf h ts vs e r⟩
  | .lst _, _, e, _ => nomatch e
  | .dct _ _, _, e, _ => nomatch e
  | .scr _, _, e, _ => nomatch e
  | .ins _ _, _, e, _ => nomatch e
  | .bdt _ _, _, e, _ => nomatch e
  | .obj _ _, _, e, _ => nomatch e
  | .lat _ _, _, e, _ => nomatch e
  | .exn _, _, e, _ => nomatch e
theorem Reps.lf (h : ∀ a xs, Rd F a (.tup xs) → Rd F' a (.tup xs)) : ∀ (ts : List T) (vs : List V), lfs ts = true → Reps K F ts vs → Reps K F' ts vs
  | [], _, _, r => r
  | t :: ts, _, e, ⟨v, r, ev, h1, h2⟩ => by
    obtain ⟨e1, e2⟩ := Bool.and_eq_true_iff.mp (show (lf0 t && lfs ts) = true from e)
    exact ⟨v, r, ev, Rep.lf h t v e1 h1, Reps.lf h ts r e2 h2⟩
end
def ownLf : T → Bool
  | .lst ts => lfs ts
  | .lat _ ts => lfs ts
  | _ => false
theorem OwnAt.lf (h : ∀ a xs, Rd F a (.tup xs) → Rd F' a (.tup xs)) {a : Addr} : ∀ {t : T}, ownLf t = true → OwnAt K F H a t → OwnAt K F' H a t
  | .lst ts, e, ⟨vs, h1, z, r⟩ => ⟨vs, h1, z, Reps.lf h ts vs e r⟩
  | .lat _ ts, e, ⟨u, vs, h1, z, r⟩ => ⟨u, vs, h1, z, Reps.lf h ts vs e r⟩
  | .dct _ _, e, _ => nomatch e
  | .bdt _ _, e, _ => nomatch e
  | .obj _ _, e, _ => nomatch e
structure Mrg (F H Fs : Hp) (σ : L2.St) (τ τs : TSt) (D : Addr → Bool) : Prop where
  base : Same F Fs
  out : ∀ a, D a = true → F a = none
  at_ : ∀ a, D a = true → Fs a = H a ∧ ∃ vs, H a = some (.lst vs)
  new : ∀ a, Fs a ≠ none → D a = true ∨ F a ≠ none
  own : ∀ (i : Nat) (k : Kd) (l : Bool) (t : T), τ[i]? = some (some ⟨k, l, t⟩) → k ≠ .frz → (τs[i]? = some (some ⟨k, l, t⟩) ∧ ownLf t = true) ∨ ∃ a, σ[i]? = some (some (.ref a)) ∧ D a = true
  back : ∀ i k a, Owns σ τs i k a → Owns σ τ i k a
end
section
variable {X : Cx} {B : Bs} {e : Expr} {te : TTE} {tt : TTT} {i g k : Nat}
end
section
variable {K : PySem.W.Frag} {B : Bs} {F F' H H' : Hp} {σ : L2.St} {τ : TSt}
end
section
variable {τ τd : TSt} {x : Option T} {l : Bool} {t : T}
end
end TL

namespace TL
open PySem PySem.Spec PyProof.Rows L2
section
variable {K : PySem.W.Frag} {B : Bs} {F F' H H' Fs : Hp} {σ : L2.St} {τ τs : TSt}
end
section
variable {X : Cx} {B : Bs} {e : Expr} {te te2 : TTE} {tt tt2 : TTT} {i g g2 k : Nat}
end
/-- the ghosts of a tuple of two lists: two, or one where both are the same -/
inductive Pair : Option Sl → Option Sl → Option Sl → List T → List T → Prop
  | two (u0 u1 : V) (ts0 ts1 : List T) : Pair (some ⟨.own, false, .lat u0 ts0⟩) (some ⟨.own, false, .lat u1 ts1⟩) (some ⟨.frz, false, .tup [.oth u0, .oth u1]⟩) ts0 ts1
  | one (u : V) (ts : List T) : Pair (some ⟨.own, false, .lat u ts⟩) none (some ⟨.frz, false, .tup [.oth u, .oth u]⟩) ts ts
section
variable {τ τm : TSt} {i g g2 : Nat} {G G2 F : Option Sl} {ts0 ts1 : List T}
end
end TL

namespace TL
open PySem PySem.Spec PyProof.Rows L2
section
variable {X : Cx} {B : Bs} {e : Expr} {es : List Expr} {te te2 : TTE} {ta : TTA}
end
def latS (j : Nat) (S : TSp) : TSp := fun as PR PX => ∃ u ts, as[j]? = some ⟨.arg j, false, .lat u ts⟩ ∧ S (as.set j ⟨.arg j, false, .lst ts⟩) (fun r us => ∃ ws, us[j]? = some (.lst ws) ∧ PR r (us.set j (.lat u ws))) (fun c us => ∃ ws, us[j]? = some (.lst ws) ∧ PX c (us.set j (.lat u ws)))
theorem argA_set : ∀ {as : List Sl} {j : Nat} {vs : List V} {k : Kd} {l l' : Bool} {t t' : T}, as[j]? = some ⟨k, l, t⟩ → argA (as.set j ⟨k, l', t'⟩) vs = argA as vs
  | [], _, _, _, _, _, _, _, h => by cases h
  | a :: as, 0, [], _, _, _, _, _, h => rfl
  | a :: as, 0, v :: vs, _, _, _, _, _, h => by cases h; rfl
  | a :: as, j + 1, [], _, _, _, _, _, h => rfl
  | a :: as, j + 1, v :: vs, _, _, _, _, _, h => congrArg (List.cons _) (argA_set (as := as) (j := j) (vs := vs) h)
section
variable {K : PySem.W.Frag} {cls : String → Addr} {S : TSp} {j : Nat} {vs : List V} {H : Hp} {Q : VK} {E : XK}
theorem liftSp_lat (h : liftSp K cls (latS j S) vs H Q E) : liftSp K cls S vs H Q E := by
  obtain ⟨F, as, PR, PX, ao, ⟨u, ts, hj, hS⟩, hq, hx⟩ := h
  have hjl := (List.getElem?_eq_some_iff.mp hj).1
  have hA : argA (as.set j ⟨.arg j, false, .lst ts⟩) vs = argA as vs := argA_set hj
  obtain ⟨v0, hv0⟩ : ∃ v, vs[j]? = some v := ⟨vs[j]'(by rw [ao.len]; exact hjl), List.getElem?_eq_getElem _⟩
  obtain ⟨_, a0, rfl, nF, eu, ws0, ho, hz, hr⟩ := ao.ow j _ v0 hj hv0 (by simp)
  have hA0 : (argA as vs)[j]? = some (some a0) := by
    unfold argA
    rw [List.getElem?_zipWith, hj, hv0]
  have back : ∀ F' H' us ws, us[j]? = some (T.lst ws) → COk K F H (argA as vs) F' H' us → COk K F H (argA as vs) F' H' (us.set j (.lat u ws)) := fun F' H' us ws hw c => ⟨c.sub, c.in_, c.new, c.fr, c.dom, fun i a ha => by
    by_cases hi : i = j
    · subst hi
      rw [hA0] at ha
      cases ha
      obtain ⟨t, ht, n, o⟩ := c.ar i a0 hA0
      rw [hw] at ht
      cases ht
      obtain ⟨vs', h1, h2, h3⟩ := o
      exact ⟨_, List.getElem?_set_self (List.getElem?_eq_some_iff.mp hw).1, n, eu, vs', h1, h2, h3⟩
    · rw [List.getElem?_set_ne (Ne.symm hi)]
      exact c.ar i a ha⟩
  have get : ∀ {i : Nat} {s : Sl}, (as.set j ⟨.arg j, false, .lst ts⟩)[i]? = some s → (i = j ∧ s = ⟨.arg j, false, .lst ts⟩) ∨ as[i]? = some s := fun {i s} h => by
    rcases set_get h with ⟨a, b, _⟩ | ⟨_, b⟩
    · exact .inl ⟨a, b⟩
    · exact .inr b
  refine ⟨F, _, _, _, ⟨ao.sub, by rw [List.length_set]; exact ao.len, fun i s h => ?_, fun i s v h hv hk => ?_, fun i s v h hv hk => ?_, by rw [hA]; exact ao.sep⟩, hS, fun r us F' H' v ⟨ws, hw, hp⟩ c rc => ?_, fun cn us F' H' ⟨ws, hw, hp⟩ c => ?_⟩
  · rcases get h with ⟨_, rfl⟩ | h
    · rfl
    · exact ao.lk i s h
  · rcases get h with ⟨_, rfl⟩ | h
    · cases hk
    · exact ao.fz i s v h hv hk
  · rcases get h with ⟨rfl, rfl⟩ | h
    · rw [hv0] at hv
      cases hv
      exact ⟨rfl, a0, rfl, nF, ws0, ho, hz, hr⟩
    · exact ao.ow i s v h hv hk
  · rw [hA] at c
    exact hq _ _ _ _ _ hp (back _ _ _ _ hw c) rc
  · rw [hA] at c
    exact hx _ _ _ _ hp (back _ _ _ _ hw c)
theorem Cal.lat {P : Program} {w : World} {mg : Str → Option Value} {base : Heap} {CX : CXT} {x : Str} {ps : List Str} {k : Nat} (C : Cal P w K mg base CX cls x ps k S) : Cal P w K mg base CX cls x ps k (latS j S) := by
  obtain ⟨f, fd, F, r⟩ := C.ex
  exact ⟨f, fd, F.imp fun vs H Q E h => liftSp_lat h, r⟩
end
def NoO (σ : L2.St) (τ : TSt) (a : Addr) : Prop := ∀ j k, ¬ Owns σ τ j k a
structure Chn (X : Cx) (B : Bs) (F0 : Hp) (σ0 : L2.St) (τ0 : TSt) (σb : L2.St) (F H : Hp) (σ : L2.St) (τ : TSt) : Prop where
  I : Inn X.K B F H σ τ
  ss : SS F0 σ0 τ0 F σ τ
  ge : GEq X σb σ
section
variable {X : Cx} {B : Bs} {F0 F H F' H' : Hp} {σ0 σb σ : L2.St} {τ0 τ : TSt}
theorem Chn.own (C : Chn X B F0 σ0 τ0 σb F H σ τ) {g : Nat} {y : Str} {a : Addr} {t : T} {P : TSt → Prop} (hy : X.N[g]? = some y) (hl : X.env.scope.names.lookup y = none) (hs : setS τ g ⟨.own, false, t⟩ P) (nF : F a = none) (o : OwnAt X.K F H a t) (no : NoO σ τ a) (nB : B.H a = none) :
    Chn X B F0 σ0 τ0 σb F H (σ.set g (some (.ref a))) (τ.set g (some ⟨.own, false, t⟩)) ∧ P (τ.set g (some ⟨.own, false, t⟩)) ∧ ∀ b, b ≠ a → NoO σ τ b → NoO (σ.set g (some (.ref a))) (τ.set g (some ⟨.own, false, t⟩)) b := by
  obtain ⟨h, hi, nl⟩ := setS.inv hs
  refine ⟨⟨store_own C.I hi ⟨a, rfl, nF, o, no⟩ ⟨a, rfl, nB⟩, C.ss.trans (store_ss nl), ⟨by rw [List.length_set]; exact C.ge.1, fun j v e => ?_⟩⟩, h, fun b hb nb j k q => ?_⟩
  · rcases set_get e with ⟨ej, _, _⟩ | ⟨_, e⟩
    · subst ej; exact .inr ⟨_, hy, hl⟩
    · exact C.ge.2 j v e
  · rcases owns_set q with ⟨_, _, e⟩ | q
    · have := e (by rw [← C.I.wf.len]; exact hi)
      cases this
      exact hb rfl
    · exact nb j k q
end
section
variable {X : Cx} {B : Bs} {k i g1 g2 g3 g4 : Nat} {x y1 y2 y3 y4 : Str} {pos p p2 p3 p4 pos1 pos2 pos3 pos' : Pos}
end
section
variable {τ : TSt} {P : R → TSt → Prop} {PA : List R → TSt → Prop} {D : TEnds} {te te2 : TTE} {ta : TTA} {g i g1 g2 g3 g4 : Nat}
end
end TL

namespace TL
open PySem PySem.Spec PyProof.Rows L2
/-- isinstance(x, c), x an error object that nobody has raised -/
def rIsX (K : PySem.W.Frag) : List V → Hp → VK → Prop := fun xs H Q => ∃ (a C : Addr) (c : V) (cv : Value) (b : Bool), xs = [.ref a, c] ∧ H a = some (ExO (.ref C) a) ∧ ExcC K C ∧ (∀ u, RelV c u → u = cv) ∧ PySem.W.kitOne K (.ref C) cv = some b ∧ Q (.bl b) H
theorem call_isX {X : Cx} : CallR X (.builtin "isinstance") (rIsX X.K) := by
  intro pins s σ H xs us Q I r h
  obtain ⟨a, C, c, cv, b, rfl, ha, E, hcv, e, q⟩ := h
  cases r with
  | cons rx rr =>
    cases rr with
    | cons rt rr =>
      cases rr
      cases rx
      have ec := hcv _ rt
      subst ec
      obtain ⟨⟨oe, vs, hget, hz, hv, _⟩, _⟩ := I.hok a _ ha
      have J : PySem.W.InstAt s.heap a oe C none := by
        obtain ⟨oc, od, oda, osl⟩ := oe
        obtain ⟨h1, h2⟩ := hz
        dsimp only at h1 h2 hv
        subst h1 h2 hv
        exact ⟨hget, rfl, rfl, trivial⟩
      exact PySem.W.kia_one (PySem.W.handS_kitx_exc E.hg E.hk E.hs E.hd E.ha E.hn E.ht E.hm) I.kIn J e (fun z => nomatch z) fun tk => ⟨.bl b, H, I.tok tk, rfl, q⟩
def exnK (RS : List String) (t : T) (k : String → Prop) : Prop := match t with
  | .exn c => RS.contains c = true ∧ k c
  | _ => False
theorem exnK_inv {RS : List String} {t : T} {k : String → Prop} (h : exnK RS t k) : ∃ c, t = .exn c ∧ RS.contains c = true ∧ k c := by
  unfold exnK at h
  split at h
  · exact ⟨_, rfl, h⟩
  · exact h.elim
def ttIsX (RS ks : List String) (te : TTE) : TTE := fun τ P => te τ fun r τ1 => exnK RS (r.t τ1) fun c => P (.val false (.bl (isSub c ks))) τ1
def ttNewX (c : String) (te : TTE) : TTE := fun τ P => te τ fun _ τ1 => P (.val false (.exn c)) τ1
section
variable {X : Cx} {B : Bs} {cls : String → Addr} {RS ks : List String} {te : TTE} {e : Expr} {y : Str} {c : String} {u : Value} {p p2 pos : Pos}
theorem tpe_isX (xc : ∀ c, RS.contains c = true → ExcC X.K (cls c)) (nx : ∀ c, RS.contains c = true → PySem.W.nsIn X.K mainGlobals (Str.ofString c) = some (some (.ref (cls c)))) (q : ∀ c, RS.contains c = true → PySem.W.kitOne X.K (.ref (cls c)) u = some (isSub c ks)) (hg : Gl X "isinstance") (hm : X.mg "isinstance" = none) (cn : ClN X y u) (he : TPE X B e te)
    (hs : starEach [e, .Name y p2] X.env = (false, eval e X.env) :: starEach [.Name y p2] X.env := by rfl) (hs2 : starEach [.Name y p2] X.env = (false, eval (.Name y p2) X.env) :: starEach [] X.env := by rfl) (hpl : (backTo pos (starEach [.Name y p2] X.env)).any (·.1) = false := by rfl) :
    TPE X B (.Call (.Name "isinstance" p) [e, .Name y p2] [] pos) (ttIsX RS ks te) := by
  obtain ⟨cv, h4, h5⟩ := cn
  refine ⟨PE.imp (pe_callB call_isX hg hm (by decide +kernel) (pa_cons he.pe (pa_cons (h5 p2) pa_nil hs2) hs) (by decide) (by decide) hs hpl) fun σ H Q h => ?_⟩
  obtain ⟨F, τ, P, I, ht, hq⟩ := h
  refine lift.go I ht fun r τ1 F1 H1 v h1 I1 s1 r1 f1 => ?_
  have rd := r1.rd I1.wf
  obtain ⟨c, et, hc, h1⟩ := exnK_inv h1
  rw [et] at rd
  obtain ⟨a, C, rfl, ha, hn⟩ := (show Rep X.K F1 (.exn c) v from rd.elim id fun ⟨_, _, _, h⟩ => h.elim)
  rw [nx c hc] at hn
  cases hn
  exact ⟨a, _, cv, u, _, rfl, I1.wf.sub a _ ha, xc c hc, fun w r => h4.eq r, q c hc, hq _ _ _ _ _ h1 I1 s1 rfl trivial⟩
theorem tpe_newX (E : ExF X.K X.mg cls c y) (hn : PySem.W.nsIn X.K mainGlobals (Str.ofString c) = some (some (.ref (cls c)))) (hg : Gl X y) (he : TPE X B e te) (hdb : (y == ("__debug__" : Str)) = false := by decide) (hs : starEach [e] X.env = (false, eval e X.env) :: starEach [] X.env := by rfl) :
    TPE X B (.Call (.Name y p) [e] [] pos) (ttNewX c te) := by
  refine ⟨PE.imp (pe_exc1 PySem.F.excBase_ValueError E.x E.g E.k hg he.pe hs hdb) fun σ H Q h => ?_⟩
  obtain ⟨F, τ, P, I, ht, hq⟩ := h
  refine lift.go I ht fun r τ1 F1 H1 v h1 I1 s1 r1 f1 => ?_
  intro a na
  have gr : Grow F1 H1 (upd F1 a (ExO (.ref (cls c)) a)) (upd H1 a (ExO (.ref (cls c)) a)) := Grow.frz I1.wf.sub na
  exact hq _ _ _ _ _ h1 (I1.step (gr.wf I1.wf) gr.step) (s1.trans gr.step) ⟨a, _, rfl, upd_same, hn⟩ trivial
end
def insG : MG := fun t ts k => match t, ts with
  | .lst us, [.int i, x] => us.length < sizeLine ∧ 0 ≤ i ∧ i < 2 ^ 63 ∧ k (.lst (us.take i.toNat ++ [x] ++ us.drop i.toNat)) .non
  | _, _ => False
def popAtG : MG := fun t ts k => match t, ts with
  | .lst us, [.int i] => 0 ≤ i ∧ i < 2 ^ 63 ∧ ∃ x, us[i.toNat]? = some x ∧ k (.lst (us.eraseIdx i.toNat)) x
  | _, _ => False
theorem Reps.eraseIdx {K : PySem.W.Frag} {F : Hp} {ts : List T} {vs : List V} (i : Nat) (h : Reps K F ts vs) : Reps K F (ts.eraseIdx i) (vs.eraseIdx i) := by
  rw [List.eraseIdx_eq_take_drop_succ, List.eraseIdx_eq_take_drop_succ]
  exact Reps.append (Reps.take _ h) (Reps.drop _ h)
theorem seqIx_nn {i : Int} {n : Nat} (h0 : 0 ≤ i) (h1 : i < n) : seqIndex? i n = some i.toNat := by
  unfold seqIndex?
  simp [h0, h1, Int.not_lt.mpr h0]
  try omega
section
variable {X : Cx}
theorem m_insertA : MutR X "list.insert" insG := by
  refine ⟨_, mt_insert, fun F H a vs t ts G Q s o r hg k => ?_⟩
  unfold insG at hg
  split at hg
  · obtain ⟨us, hl, z, ru⟩ := o
    obtain ⟨v, vr, rfl, h1, v2, vr2, rfl, h2, h3⟩ := r
    obtain rfl := (show vr2 = [] from h3)
    obtain rfl := (show v = V.int _ from h1)
    obtain ⟨g1, g2, g3, hg⟩ := hg
    refine ⟨a, us, _, v2, rfl, rfl, hl, by rw [← ru.len]; exact g1, g2, g3, k _ _ _ _ hg ⟨_, upd_same, ?_, Reps.append (Reps.append (Reps.take _ ru) ⟨v2, [], rfl, h2, rfl⟩) (Reps.drop _ ru)⟩ rfl⟩
    have := ru.len
    simp only [List.length_append, List.length_take, List.length_drop, List.length_singleton]
    omega
  · exact hg.elim
theorem m_popAt : MutR X "list.pop" popAtG := by
  refine ⟨rPopAt, mt_popAt, fun F H a vs t ts G Q s o r hg k => ?_⟩
  unfold popAtG at hg
  split at hg
  · obtain ⟨us, hl, z, ru⟩ := o
    obtain ⟨v, vr, rfl, h1, h3⟩ := r
    obtain rfl := (show vr = [] from h3)
    obtain rfl := (show v = V.int _ from h1)
    obtain ⟨g1, g2, x, hx, hg⟩ := hg
    obtain ⟨w, hw, rw'⟩ := ru.get hx
    have hlt := (List.getElem?_eq_some_iff.mp hw).1
    refine ⟨a, us, _, _, w, rfl, rfl, hl, by omega, g2, seqIx_nn g1 (by omega), hw, k _ _ _ _ hg ⟨_, upd_same, ?_, Reps.eraseIdx _ ru⟩ rw'⟩
    exact Nat.le_trans (List.length_eraseIdx_le ..) z
  · exact hg.elim
end
def ttDg (x : Str) (n : Int) : TTE := fun τ P => P (.val true (.dct [.inr x] [.int n])) τ
section
variable {X : Cx} {B : Bs} {x : Str} {n i j : Nat} {p1 q1 dp : Pos}
theorem tpe_dg : TPE X B (.Dict [some (.Constant (.str x) j p1)] [.Constant (.int n) i q1] dp) (ttDg x n) := by
  refine ⟨PE.imp (pe_disp (pps_cons pe_str pe_int pps_nil) (by rfl) (by rfl) (fun z => by cases z) (by simp)) fun σ H Q h => ?_⟩
  obtain ⟨F, τ, P, I, ht, hq⟩ := h
  intro q nq
  have g : Grow F H F (upd (upd H q (.dK [])) q (.dK [(.inr x, .int n)])) := by
    rw [upd_upd]
    exact Grow.own I.wf.sub nq
  have hm : mergeK [] [((.inr x : Key), V.int n)] = [(.inr x, .int n)] := rfl
  refine ⟨upd_same, [(.inr x, .int n)], rfl, by show 1 ≤ 15; decide, ?_⟩
  rw [hm]
  exact hq (.val true (.dct [.inr x] [.int n])) τ F _ _ ht (I.step (g.wf I.wf) g.step) g.step ⟨q, rfl, I.wf.sub.free nq, ⟨_, upd_same, by show 1 ≤ sizeLine; rw [sizeLine_val]; decide, rfl, _, _, rfl, rfl, rfl⟩, fun i k o => owns_some I.wf o nq⟩ ⟨q, rfl, nq⟩
end
section
variable {τ : TSt} {P : R → TSt → Prop} {RS ks : List String} {te : TTE} {c : String} {k : String → Prop}
theorem z_isX : ttIsX RS ks te τ P = te τ (@box _ ⟨fun r τ1 => exnK RS (r.t τ1) (@box _ ⟨fun c => P (.val false (.bl (isSub c ks))) τ1⟩)⟩) := rf rfl
theorem z_newX : ttNewX c te τ P = te τ (@box _ ⟨fun _ τ1 => P (.val false (.exn c)) τ1⟩) := rf rfl
variable {xs : List T} {x : T} {i : Int} {kk : T → T → Prop}
theorem q_ins : insG (.lst xs) [.int i, x] kk = (xs.length < sizeLine ∧ 0 ≤ i ∧ i < 2 ^ 63 ∧ kk (.lst (xs.take i.toNat ++ [x] ++ xs.drop i.toNat)) .non) := rf rfl
theorem q_popAt : popAtG (.lst xs) [.int i] kk = (0 ≤ i ∧ i < 2 ^ 63 ∧ ∃ x, xs[i.toNat]? = some x ∧ kk (.lst (xs.eraseIdx i.toNat)) x) := rf rfl
theorem z_dg {y : Str} {n : Int} : ttDg y n τ P = P (.val true (.dct [.inr y] [.int n])) τ := rf rfl
theorem exnK_e : exnK RS (.exn c) k = (RS.contains c = true ∧ k c) := rf rfl
end
end TL

local macro_rules | `(tactic| walk_at "tl") => `(tactic| simp -dsimp only [TL.y_sl2, TL.y_mkf, TL.y_mko, TL.y_mka, TL.y_tv, TL.y_tn, TL.y_slT, TL.y_set, TL.y_mkN, TL.y_mkV, TL.y_mkn, TL.y_pbV, TL.y_pbn, TL.y_pbN, TL.y_pbf, TL.y_pbo, TL.y_pba, TL.y_pbl, TL.y_pbm, TL.y_voN, TL.y_voV, TL.y_von, TL.y_vnV, TL.y_vnn, TL.y_out, TL.y_onN, TL.y_onC, TL.y_st, TL.y_kp, TL.y_kpN, TL.y_kpC, TL.y_kpf, TL.y_kpa, TL.y_lkN, TL.y_lkS, TL.y_lkT, TL.y_lks, TL.y_unN, TL.y_unS, TL.y_uns, TL.y_wN, TL.y_wC, TL.z_v, TL.z_k, TL.z_tf, TL.z_nil, TL.z_cons, TL.z_tup, TL.z_lst, TL.z_bin, TL.z_B, TL.z_and, TL.z_or, TL.z_not, TL.z_if, TL.z_andV, TL.z_orV, TL.z_notV, TL.z_chain, TL.z_ix, TL.z_toN, TL.z_toS, TL.z_sl, TL.z_mut, TL.z_d0, TL.z_c1, TL.z_u, TL.z_cn, TL.z_isi, TL.z_aN, TL.z_aF, TL.z_aV, TL.z_call, TL.z_next, TL.z_brk, TL.z_cont, TL.z_seq, TL.z_drop, TL.z_ret, TL.z_retN, TL.z_ifS, TL.z_set, TL.z_tgN, TL.z_gsN, TL.z_gsC, TL.z_tgT, TL.z_asg, TL.z_setIx, TL.z_sf, TL.z_seqs, TL.z_rev, TL.z_zip, TL.z_rng1, TL.z_rng2, TL.z_fld, TL.fldK_i, TL.fg_r, TL.fg_n, TL.fg_b, TL.q_sortSetL, TL.z_lrg1, TL.z_lrg2, TL.z_get2, TL.isD_d, TL.dgK_i, TL.q_minL, TL.q_maxL, TL.q_divmod, TL.q_lenSet, TL.q_sortSet, TL.z_tgL, TL.z_par, TL.parK_2, TL.z_enum, TL.q_enum_0, TL.q_enum_1, TL.z_zp, TL.q_zpL, TL.q_sqOf_0, TL.q_sqOf_1, TL.q_sortedR, TL.q_sortedD, TL.q_ix_d, TL.q_eq_rows, TL.q_ne_rows, TL.q_eq_rows0, TL.q_ne_rows0, TL.q_eq_t0, TL.q_ne_t0, TL.q_eq_l0, TL.q_is_r, TL.isi_tuple_r, TL.isi_list_r, TL.b2i_t, TL.b2i_f, TL.q_r0_e, TL.q_r0_s, TL.q_r0_p, TL.q_r0_g, TL.q_r1_g, TL.q_es_evens_evens, TL.q_ns_evens_evens, TL.q_es_evens_sums, TL.q_ns_evens_sums, TL.q_es_evens_pairs, TL.q_ns_evens_pairs, TL.q_es_evens_gaps, TL.q_ns_evens_gaps, TL.q_es_sums_evens, TL.q_ns_sums_evens, TL.q_es_sums_sums, TL.q_ns_sums_sums, TL.q_es_sums_pairs, TL.q_ns_sums_pairs, TL.q_es_sums_gaps, TL.q_ns_sums_gaps, TL.q_es_pairs_evens, TL.q_ns_pairs_evens, TL.q_es_pairs_sums, TL.q_ns_pairs_sums, TL.q_es_pairs_pairs, TL.q_ns_pairs_pairs, TL.q_es_pairs_gaps, TL.q_ns_pairs_gaps, TL.q_es_gaps_evens, TL.q_ns_gaps_evens, TL.q_es_gaps_sums, TL.q_ns_gaps_sums, TL.q_es_gaps_pairs, TL.q_ns_gaps_pairs, TL.q_es_gaps_gaps, TL.q_ns_gaps_gaps, TL.z_try, TL.xt_e, TL.noLk_c, TL.noLk_n, TL.noLk_0, TL.z_raise, TL.oD_rt, TL.oD_nx, TL.z_isE, TL.isEK_o, TL.q_mulS, TL.r2L_i, TL.z_rng2L, TL.z_call2, TL.q_sortSetA0, TL.q_sortSetA1, TL.z_trg2, TL.q_dn0, TL.q_dn1, TL.q_dn2, TL.q_d4e, TL.q_d4s, TL.q_d4p, TL.q_d4g, TL.q_lenSetU, TL.q_sortTup, TL.z_sumRg1, TL.z_dB, TL.z_ixB, TL.z_setIxB, TL.q_ixB, TL.q_inB, TL.stIxB_eq, TL.sxBK_o, TL.q_mulTT, TL.stK_s, TL.q_seq_3, TL.z_join, TL.joinT_l, TL.z_split, TL.z_partn, TL.z_orS, TL.q_int_2, TL.q_str_0, TL.z_revS, TL.z_inRg, TL.z_niRg, TL.q_mulSG, TL.z_dictEnF, TL.z_dictEnT, TL.z_trgC, TL.r3C_i, TL.z_setCut, TL.sxCut_o, TL.q_cutG, TL.z_lcD, TL.lcDT_o, TL.z_lcDK, TL.z_tiD, TL.kT_ints, TL.z_kd, TL.objK_o, TL.objK_a, TL.latK_o, TL.latK_a, TL.nthK_0, TL.nthK_1, TL.nthK_2, TL.prK_2, TL.objM_o, TL.objM_a, TL.z_fldG, TL.z_set2G, TL.z_methG, TL.z_appG, TL.z_nilG, TL.z_newG, TL.q_appL, TL.q_popL, TL.q_pop0, TL.hasG_n, TL.hasG_c, TL.z_gl, TL.z_callG, TL.vg_12, TL.vg_23, TL.vg_34, TL.z_mutD, TL.dctK_o, TL.dctK_a, TL.z_isX, TL.z_newX, TL.exnK_e, TL.q_ins, TL.q_popAt, TL.z_dg, TL.z_yes, TL.bx_app, TL.sD_nx, TL.sD_rt, TL.sD_bk, TL.sD_ct, TL.lD_nx, TL.lD_rt, TL.lD_bk, TL.lD_ct, decide_true, decide_false, eq_self, TL.cnd_t, TL.cnd_f, TL.cnd_not, TL.blK_bl, TL.inK_int, TL.opK_some, TL.r1K_i, TL.r2K_i, TL.frz_val, TL.frz_var, TL.frK_f, TL.frK_o, TL.stR_v, TL.stR_f, TL.stR_n, TL.sl_eq, TL.slK_s, TL.mutS_eq, TL.mtK_o, TL.mtK_a, TL.stIx_eq, TL.sxK_o, TL.sxK_a, TL.ret_val, TL.ret_var, TL.rtK_f, TL.rtK_o, TL.ends_rt, TL.ends_nx, TL.mtL_l, TL.mtL_d, 
  TL.q_add_0, TL.q_add_1, TL.q_add_2, TL.q_add_3, TL.q_sub_0, TL.q_mul_0, TL.q_mul_1, TL.q_fdiv_0, TL.q_mod_0, TL.q_pow_0, TL.q_shl_0, TL.q_lt_0, TL.q_le_0, TL.q_gt_0, TL.q_ge_0, TL.q_eq_0, TL.q_ne_0, TL.q_eq_1, TL.q_ne_1, TL.q_eq_2, TL.q_ne_2, TL.q_eq_3, TL.q_ne_3, TL.q_is_0, TL.q_is_1, TL.q_is_2, TL.q_is_3, TL.q_is_4, TL.q_is_5, TL.q_is_6, TL.q_in_0, TL.q_in_1, TL.q_in_2, TL.q_ix_0, TL.q_ix_1, TL.q_ix_2, TL.q_ix_3, TL.q_sl_0, TL.q_sl_1, TL.q_sl_2, TL.q_sl_3, TL.q_len_0, TL.q_len_1, TL.q_len_2, TL.q_len_3, TL.q_list_0, TL.q_list_1, TL.q_list_2, TL.q_tuple_0, TL.q_tuple_1, TL.q_tuple_2, TL.q_int_0, TL.q_int_1, TL.q_sum_0, TL.q_all_0, TL.q_any_0, TL.q_sorted_0, TL.q_max2_0, TL.q_min2_0, TL.q_neg_0, TL.q_append_0, TL.q_extend_0, TL.q_insert_0, TL.q_seq_0, TL.q_seq_1, TL.q_seq_2, TL.q_rev_0, TL.q_rev_1, TL.q_zip_0, TL.q_zip_1, TL.q_setG_0, TL.q_setG_1,
  TL.canS_of, TL.canS_none, TL.canS_some, TL.atI_0, TL.atI_1, TL.atI_2, TL.atI_3, TL.ex_some,
  TL.ttFor_eq, TL.ttLc_eq, TL.y_bN, TL.y_bC, TL.ofT_none, TL.ofT_some, TL.keyT, TL.intsT_map, TL.blsT_map,
  TL.isi_int_non, TL.isi_int_bl, TL.isi_int_int, TL.isi_int_str, TL.isi_int_tup, TL.isi_int_lst, TL.isi_bool_non, TL.isi_bool_bl, TL.isi_bool_int, TL.isi_bool_str, TL.isi_bool_tup, TL.isi_bool_lst, TL.isi_str_non, TL.isi_str_bl, TL.isi_str_int, TL.isi_str_str, TL.isi_str_tup, TL.isi_str_lst, TL.isi_tuple_non, TL.isi_tuple_bl, TL.isi_tuple_int, TL.isi_tuple_str, TL.isi_tuple_tup, TL.isi_tuple_lst, TL.isi_list_non, TL.isi_list_bl, TL.isi_list_int, TL.isi_list_str, TL.isi_list_tup, TL.isi_list_lst, TL.canS_ofO, TL.ofO_none, TL.ofO_some, TL.q_abs_0, TL.canS_ofE, TL.ofE_none, TL.ofE_f, TL.ofE_o, TL.atI_4, TL.atI_5, TL.ixN_0, TL.ixN_1, TL.ixN_2, exists_const, exists_eq_left, exists_and_left, decide_eq_true_eq, Int.reduceLT, Int.reduceLE, Int.reduceAdd, Int.reduceSub, Int.reduceMul, Int.reducePow, Int.reduceNeg, Int.reduceToNat, Nat.reduceAdd, Nat.reducePow, Nat.reduceLT, Nat.reduceLeDiff, Nat.reduceMul, Nat.reduceSub,
  List.getElem?_cons_zero, List.getElem?_cons_succ, List.set_cons_zero, List.set_cons_succ, List.map_cons, List.map_nil, List.length_cons, List.length_nil, List.replicate, List.cons_append, List.nil_append, Option.getD_some,
  Option.some.injEq, exists_eq', exists_eq_left', true_and, and_true, Bool.true_and, if_true, if_false, Bool.false_eq_true, ite_true, ite_false, List.all_nil, List.all_cons, Bool.and_true, Bool.false_bne, Bool.true_bne, Bool.not_true, Bool.not_false, String.reduceEq, Option.map_some, Int.zero_add])
local macro_rules | `(tactic| walk_at "side") => `(tactic| first | omega | assumption | exact trivial | exact Or.inl ⟨by omega, by omega⟩ | exact Or.inr (Or.inl ⟨by omega, by omega⟩) | exact TL.log2_ok (n := 1000) (by assumption) (by assumption) (by decide) (by decide) | decide)
local macro_rules | `(tactic| walk_at "vc") => `(tactic| ((repeat' apply And.intro) <;> (try (walk_at "side"))))

local macro_rules | `(tactic| walk_at "fz") => `(tactic| (intro v hv; have := List.mem_singleton.mp hv; subst this; first | exact TL.frzAt_none rfl | exact TL.frzAt_of rfl | exact trivial))
local macro_rules | `(tactic| walk_at "t") => `(tactic| try walk_at "tl")
local macro_rules | `(tactic| walk_at "g") => `(tactic| repeat (first | walk_at "tl" | simp -dsimp only [TL.q_rg0, TL.q_rgs, TL.q_rgsn, TL.q_rgp, TL.q_rgpn]))
local macro_rules | `(tactic| walk_at "z") => `(tactic| repeat (refine And.intro (by omega) ?_))
namespace Lib
open PySem L2 TL
abbrev fz (t : T) : Sl := ⟨.frz, false, t⟩
abbrev pl (a b c : Int) : T := .lst [.int a, .int b, .int c]
abbrev plA (a b c : Int) : Sl := ⟨.arg 0, false, pl a b c⟩
def sp_law_next_a : TSp := fun as PR PX => ∃ a b c base, as = [plA a b c, fz (.int base)] ∧ 0 < base ∧ base < 2 ^ 1000 ∧ ∀ d a' b' c', 0 ≤ d → d < base → PR (.val false (.int d)) [pl a' b' c', .int base]
def rd_law_next_a : TTS := ttSeq (ttIfS (ttB (ttBin (gtT) (ttIx (tv 0) (tk (.int 0))) (tk (.int 0)))) (ttSeq (ttSet 4 (ttBin modT (ttIx (tv 0) (tk (.int 0))) (tv 1)))
  (ttSeq (ttSetIx 0 (ttBin fdivT (ttIx (tv 0) (tk (.int 0))) (tv 1)) (tk (.int 0)))
  (ttRet (tv 4)))) (ttNext))
  (ttSeq (ttSetIx 0 (ttBin addT (ttIx (tv 0) (tk (.int 2))) (tk (.int 1))) (tk (.int 2)))
  (ttSeq (ttSet 2 (ttBin modT (ttBin addT (ttIx (tv 0) (tk (.int 1))) (ttBin mulT (tk (.int 7919)) (ttIx (tv 0) (tk (.int 2))))) (tk (.int 1000000007))))
  (ttSeq (ttSet 3 (ttBin modT (ttBin mulT (ttBin addT (tv 2) (tk (.int 11))) (ttBin addT (tv 2) (tk (.int 48271)))) (tk (.int 998244353))))
  (ttRet (ttBin modT (ttBin fdivT (ttBin modT (ttBin mulT (tv 3) (tv 3)) (tk (.int 2147483647))) (tk (.int 8))) (tv 1))))))
theorem ok_law_next_a : ∀ as PR PX, sp_law_next_a as PR PX → rd_law_next_a (endsT as PR) (startT 5 as) := by
  rintro as PR PX ⟨a, b, c, base, rfl, h0, h1, k⟩
  unfold rd_law_next_a
  walk_at "tl"
  refine cnd_2 (fun h => ?_) (fun h => ?_)
  · walk_at "tl"
    walk_at "vc"
    exact k _ _ _ _ (Int.emod_nonneg _ (by omega)) (Int.emod_lt_of_pos _ h0)
  · walk_at "tl"
    walk_at "vc"
    exact k _ _ _ _ (Int.emod_nonneg _ (by omega)) (Int.emod_lt_of_pos _ h0)
theorem ln_law_next_a : ∀ as PR PX, sp_law_next_a as PR PX → as.length = 2 := by
  rintro as PR PX ⟨a, b, c, base, rfl, _⟩
  rfl
theorem i_next_a {a b c base : Int} {PR : R → List T → Prop} {PX : String → List T → Prop} (h0 : 0 < base) (h1 : base < 2 ^ 1000) (k : ∀ d a' b' c', 0 ≤ d → d < base → PR (.val false (.int d)) [pl a' b' c', .int base]) : sp_law_next_a [plA a b c, fz (.int base)] PR PX :=
  ⟨a, b, c, base, rfl, h0, h1, k⟩
theorem pickI {is : List Int} {i : Int} {p : Int → Prop} (h0 : 0 ≤ i) (h1 : i < is.length) (h : ∀ n ∈ is, p n) : ∃ n, atI (is.map T.int) i = some (.int n) ∧ p n :=
  ⟨_, atI_int h0 h1, h _ (List.getElem_mem _)⟩
end Lib

namespace Lib
open PySem L2 TL
structure StOk (ss : List Int) : Prop where
  pw : ss.Pairwise (· < ·)
  bd : ∀ s ∈ ss, 1 ≤ s ∧ s ≤ 10
  l0 : 0 < ss.length
  l1 : ss.length ≤ 4
def RlOk : Rl → Prop
  | .gaps ss => StOk ss
  | _ => True
def barP (r : Rl) (xs : List Int) (n : Int) (w : List Int) : Prop := match r with
  | .evens => ∃ x y, w = [x, y] ∧ x ∈ xs ∧ y ∈ xs ∧ x < y ∧ n = 2 * y - x
  | .sums => ∃ x y, w = [x, y] ∧ x ∈ xs ∧ y ∈ xs ∧ x ≤ y ∧ n = x + y
  | .pairs => ∃ x y z, w = [x, y, z] ∧ x ∈ xs ∧ y ∈ xs ∧ z ∈ xs ∧ x < y ∧ y ≤ z ∧ n = y + z - x
  | .gaps ss => ∃ x, w = [x] ∧ x ∈ xs ∧ n - x ∈ ss
def evB (xs : List Int) (n : Int) : List (List Int) := (xs.filter fun y => decide (2 * y - n ∈ xs) && decide (2 * y - n < y)).map fun y => [2 * y - n, y]
def suB (xs : List Int) (n : Int) : List (List Int) := (xs.filter fun x => decide (x ≤ n - x) && decide (n - x ∈ xs)).map fun x => [x, n - x]
def paS (xs : List Int) (n : Int) (i : Nat) : List (List Int) := ((xs.take i).filter fun x => decide (xs.getD i 0 ≤ n + x - xs.getD i 0) && decide (n + x - xs.getD i 0 ∈ xs)).map fun x => [x, xs.getD i 0, n + x - xs.getD i 0]
def paB (xs : List Int) (n : Int) : List (List Int) := (List.range xs.length).flatMap (paS xs n)
def gaB (ss xs : List Int) (n : Int) : List (List Int) := (ss.filter fun s => decide (n - s ∈ xs)).map fun s => [n - s]
def rawB (r : Rl) (xs : List Int) (n : Int) : List (List Int) := match r with
  | .evens => evB xs n
  | .sums => suB xs n
  | .pairs => paB xs n
  | .gaps ss => gaB ss xs n
def barsR (r : Rl) (xs : List Int) (n : Int) : List (List Int) := srtR (rawB r xs n)
theorem getD_at {xs : List Int} {i : Nat} (h : i < xs.length) : xs[i]? = some (xs.getD i 0) := by
  rw [List.getD_eq_getElem?_getD, List.getElem?_eq_getElem h]
  rfl
theorem sorted_take {xs : List Int} {i : Nat} {y x : Int} (hs : xs.Pairwise (· < ·)) (hy : xs[i]? = some y) : x ∈ xs.take i ↔ (x ∈ xs ∧ x < y) := by
  have h := sorted_drop0 hs hy (y := x)
  have e : x ∈ xs ↔ x ∈ xs.take i ∨ x ∈ xs.drop i := by
    rw [← List.mem_append, List.take_append_drop]
  have hn := hs
  rw [← List.take_append_drop i xs, List.pairwise_append] at hn
  constructor
  · intro hx
    refine ⟨e.mpr (.inl hx), ?_⟩
    have hyd : y ∈ xs.drop i := (sorted_drop0 hs hy).mpr ⟨List.mem_of_getElem? hy, Int.le_refl _⟩
    exact hn.2.2 x hx y hyd
  · rintro ⟨hx, hlt⟩
    rcases e.mp hx with q | q
    · exact q
    · have := (h.mp q).2
      omega
theorem nodup_lt {xs : List Int} (h : xs.Pairwise (· < ·)) : xs.Nodup := h.imp fun h => by omega
end Lib

namespace Lib
open PySem L2 TL
def sp_law_dig_a : TSp := fun as PR PX => ∃ n, as = [fz (.int n)] ∧ ∀ a b c, PR (.val true (pl a b c)) [.int n]
def rd_law_dig_a : TTS := ttRet (ttLst (tlcons (ttCn max2T (tlcons (tk (.int 0)) (tlcons (ttBin subT (tv 0) (ttBin powT (tk (.int 10)) (tk (.int 18)))) (tlnil)))) (tlcons (ttBin modT (tv 0) (ttBin powT (tk (.int 10)) (tk (.int 18)))) (tlcons (tk (.int 0)) (tlnil)))))
theorem ok_law_dig_a : ∀ as PR PX, sp_law_dig_a as PR PX → rd_law_dig_a (endsT as PR) (startT 1 as) := by
  rintro as PR PX ⟨n, rfl, k⟩
  unfold rd_law_dig_a
  walk_at "tl"
  walk_at "vc"
  exact k _ _ _
theorem ln_law_dig_a : ∀ as PR PX, sp_law_dig_a as PR PX → as.length = 1 := by
  rintro as PR PX ⟨n, rfl, _⟩
  rfl
theorem i_dig {n : Int} {PR : R → List T → Prop} {PX : String → List T → Prop} (k : ∀ a b c, PR (.val true (pl a b c)) [.int n]) : sp_law_dig_a [fz (.int n)] PR PX := ⟨n, rfl, k⟩
def sp_law_cells_a : TSp := fun as PR PX => ∃ (ns : List Int) (l m : Nat), as = [fz (.scr ns), fz (.int l), fz (.int m)] ∧ ns.length ≤ 63 ∧ l ≤ 100 ∧ ∀ cs : List Int, cs.length ≤ 200 ∧ (cs.length ≤ m ∨ cs.length ≤ l) → PR (.val true (.lst (cs.map T.int))) [.scr ns, .int l, .int m]
def rd_law_cells_a : TTS := ttSeq (ttSet 3 (ttC1 listT (ttSl (tv 0) (toN) (toS (tv 2)))))
  (ttSeq (ttWhile (ttB (ttBin (ltT) (ttC1 lenT (tv 3)) (tv 1))) (ttDrop (ttMut true 3 (tlcons (ttBin addT (ttBin mulT (ttBin mulT (tk (.int 7919)) (ttC1 lenT (tv 3))) (ttC1 lenT (tv 3))) (ttBin mulT (tk (.int 31)) (ttC1 lenT (tv 3)))) (tlnil)) appendG)))
  (ttRet (tv 3)))
theorem ln_law_cells_a : ∀ as PR PX, sp_law_cells_a as PR PX → as.length = 3 := by
  rintro as PR PX ⟨n, l, m, rfl, _⟩
  rfl
theorem ok_law_cells_a : ∀ as PR PX, sp_law_cells_a as PR PX → rd_law_cells_a (endsT as PR) (startT 4 as) := by
  rintro as PR PX ⟨ns, l, m, rfl, hn, hl, k⟩
  have sz := sizeLine_val
  unfold rd_law_cells_a
  walk_at "tl"
  rw [cut_takeI]
  refine while_b (α := List Int) (fun x => [some (fz (.scr ns)), some (fz (.int l)), some (fz (.int m)), some ⟨.own, false, .lst (x.map T.int)⟩]) (fun x => x.length ≤ 200 ∧ (x.length ≤ m ∨ x.length ≤ l)) (fun x => l - x.length) (ns.take m) rfl (by rw [List.length_take]; omega) (fun x hI => ?_)
  walk_at "tl"
  simp only [List.length_map]
  refine cnd_2 (fun h => ?_) (fun h => ?_)
  · walk_at "tl"
    simp only [List.length_map]
    refine ⟨Or.inl (by decide), Or.inr (Or.inl ⟨by omega, by omega⟩), Or.inl (by decide), by omega, ?_⟩
    exact ⟨x ++ [7919 * (x.length : Int) * x.length + 31 * (x.length : Int)], by rw [List.map_append]; rfl, by simp only [List.length_append, List.length_singleton]; omega, by simp only [List.length_append, List.length_singleton]; omega⟩
  · walk_at "tl"
    exact k _ hI
theorem i_cells {ns : List Int} {l m : Nat} {PR : R → List T → Prop} {PX : String → List T → Prop} (hn : ns.length ≤ 63) (hl : l ≤ 100) (k : ∀ cs : List Int, cs.length ≤ 200 ∧ (cs.length ≤ m ∨ cs.length ≤ l) → PR (.val true (.lst (cs.map T.int))) [.scr ns, .int l, .int m]) : sp_law_cells_a [fz (.scr ns), fz (.int l), fz (.int m)] PR PX := ⟨ns, l, m, rfl, hn, hl, k⟩
def sp_law_rule_a : TSp := fun as PR PX => ∃ a b c, as = [plA a b c] ∧ ∀ r a b c, RlOk r → PR (.val false (ruleT r)) [pl a b c]
def rd_law_rule_a : TTS := ttSeq (ttSet 1 (ttCall sp_law_next_a nox (taV 0 (taF (tk (.int 5)) (taNil)))))
  (ttSeq (ttIfS (ttB (ttBin (ltT) (tv 1) (tk (.int 3)))) (ttRet (ttTup (tlcons (ttIx (ttLst (tlcons (tk (.str "evens")) (tlcons (tk (.str "sums")) (tlcons (tk (.str "pairs")) (tlnil))))) (tv 1)) (tlnil)))) (ttNext))
  (ttSeq (ttSet 2 (ttDict0))
  (ttSeq (ttFor (tiRng1 (tlcons (ttBin addT (tk (.int 1)) (ttCall sp_law_next_a nox (taV 0 (taF (tk (.int 4)) (taNil))))) (tlnil))) (tgN 3) (ttSetIx 2 (tk (.bl true)) (ttBin addT (tk (.int 1)) (ttCall sp_law_next_a nox (taV 0 (taF (tk (.int 10)) (taNil)))))))
  (ttRet (ttTup (tlcons (tk (.str "gaps")) (tlcons (ttC1 tupleT (ttC1 sortedDT (tv 2))) (tlnil))))))))
theorem ln_law_rule_a : ∀ as PR PX, sp_law_rule_a as PR PX → as.length = 1 := by
  rintro as PR PX ⟨a, b, c, rfl, _⟩
  rfl
structure StpI (i : Nat) (zs : List Int) : Prop where
  nd : zs.Nodup
  bd : ∀ z ∈ zs, 1 ≤ z ∧ z ≤ 10
  len : zs.length ≤ i
  pos : 0 < i → 0 < zs.length
theorem ok_law_rule_a : ∀ as PR PX, sp_law_rule_a as PR PX → rd_law_rule_a (endsT as PR) (startT 4 as) := by
  rintro as PR PX ⟨a, b, c, rfl, k⟩
  have sz := sizeLine_val
  unfold rd_law_rule_a
  walk_at "tl"
  refine i_next_a (by decide) (by decide) (fun d a b c d0 d1 => ?_)
  walk_at "tl"
  refine cnd_2 (fun h => ?_) (fun h => ?_)
  · walk_at "tl"
    obtain rfl | rfl | rfl : d = 0 ∨ d = 1 ∨ d = 2 := by omega
    all_goals
      walk_at "tl"
      walk_at "z"
    · exact k .evens _ _ _ trivial
    · exact k .sums _ _ _ trivial
    · exact k .pairs _ _ _ trivial
  · walk_at "tl"
    refine i_next_a (by decide) (by decide) (fun e a b c e0 e1 => ?_)
    walk_at "tl"
    refine ⟨by omega, ?_⟩
    refine forT_p (α := Int × Int × Int × List Int × List T × Option T) (fun x => [some (plA x.1 x.2.1 x.2.2.1), some (fz (.int d)), some ⟨.own, false, .dct (x.2.2.2.1.map Sum.inl) x.2.2.2.2.1⟩, ofT x.2.2.2.2.2]) (fun i x => StpI i x.2.2.2.1) (a, b, c, [], [], none) rfl ⟨List.nodup_nil, by simp, Nat.zero_le _, by simp⟩ (fun i t x ht hI => ?_) (fun x hI => ?_)
    · obtain ⟨a, b, c, zs, ts, o⟩ := x
      obtain ⟨hi, rfl⟩ := rngT_get ht
      obtain ⟨q1, q2, q3, q4⟩ := hI
      simp only at q1 q2 q3 q4
      walk_at "tl"
      refine i_next_a (by decide) (by decide) (fun v a b c v0 v1 => ?_)
      walk_at "tl"
      simp only [List.length_map]
      refine ⟨by omega, ?_⟩
      rw [dPutK_ints]
      refine ⟨(a, b, c, addI zs (1 + v), dPutV (zs.map Sum.inl) ts (Sum.inl (1 + v)) (.bl true), some _), rfl, addI_nd q1, fun z hz => ?_, Nat.le_trans addI_len (by omega), fun _ => addI_pos⟩
      rcases addI_mem.mp hz with q | q
      · exact q2 z q
      · rw [q]
        omega
    · obtain ⟨a, b, c, zs, ts, o⟩ := x
      obtain ⟨q1, q2, q3, q4⟩ := hI
      rw [rngT_len] at q3 q4
      simp only at q1 q2 q3 q4
      walk_at "tl"
      refine ⟨zs, rfl, ?_⟩
      walk_at "t"
      walk_at "z"
      refine k (.gaps (srt zs)) _ _ _ ⟨srt_lt q1, fun s hs => q2 s ((srt_perm zs).mem_iff.mp hs), ?_, ?_⟩
      · rw [(srt_perm zs).length_eq]
        exact q4 (by omega)
      · rw [(srt_perm zs).length_eq]
        omega
theorem i_rule_a {a b c : Int} {PR : R → List T → Prop} {PX : String → List T → Prop} (k : ∀ r a b c, RlOk r → PR (.val false (ruleT r)) [pl a b c]) : sp_law_rule_a [plA a b c] PR PX := ⟨a, b, c, rfl, k⟩
end Lib

namespace Lib
open PySem L2 TL
end Lib

namespace Lib
open PySem L2 TL
theorem atI_getD {xs : List Int} {i : Nat} (h : i < xs.length) : atI (xs.map T.int) (i : Int) = some (.int (xs.getD i 0)) := by
  rw [atI_map, atI_nat (getD_at h)]
  rfl
end Lib

namespace Lib
open PySem L2 TL
def loR : Rl → Int
  | .sums => 1
  | _ => 0
structure SmOk (r : Rl) (m : Int) (xs : List Int) : Prop where
  pw : xs.Pairwise (· < ·)
  len : xs.length ≤ 60
  bd : ∀ x ∈ xs, loR r ≤ x ∧ x < m
theorem SmOk.mono {r : Rl} {m n : Int} {xs : List Int} (h : SmOk r m xs) (hn : m ≤ n) : SmOk r n xs := ⟨h.pw, h.len, fun x hx => by have := h.bd x hx; omega⟩
end Lib

namespace Lib
open PySem L2 TL
def Brd (r : Rl) (xs : List Int) (n : Int) : Prop := ∃ w, barP r xs n w
theorem Brd.mono {r : Rl} {xs ys : List Int} {n : Int} (h : ∀ x ∈ xs, x ∈ ys) (hb : Brd r xs n) : Brd r ys n := by
  obtain ⟨w, hw⟩ := hb
  refine ⟨w, ?_⟩
  cases r with
  | evens => obtain ⟨x, y, e, h1, h2, q⟩ := hw; exact ⟨x, y, e, h x h1, h y h2, q⟩
  | sums => obtain ⟨x, y, e, h1, h2, q⟩ := hw; exact ⟨x, y, e, h x h1, h y h2, q⟩
  | pairs => obtain ⟨x, y, z, e, h1, h2, h3, q⟩ := hw; exact ⟨x, y, z, e, h x h1, h y h2, h z h3, q⟩
  | gaps ss => obtain ⟨x, e, h1, q⟩ := hw; exact ⟨x, e, h x h1, q⟩
theorem brd_nil {r : Rl} {n : Int} : ¬Brd r [] n := by
  rintro ⟨w, hw⟩
  cases r with
  | evens => obtain ⟨x, y, e, h1, _⟩ := hw; cases h1
  | sums => obtain ⟨x, y, e, h1, _⟩ := hw; cases h1
  | pairs => obtain ⟨x, y, z, e, h1, _⟩ := hw; cases h1
  | gaps ss => obtain ⟨x, e, h1, _⟩ := hw; cases h1
theorem nodup_len : ∀ {l m : List Int}, l.Nodup → (∀ x ∈ l, x ∈ m) → l.length ≤ m.length
  | [], _, _, _ => Nat.zero_le _
  | x :: l, m, hn, h => by
    have hx := h x List.mem_cons_self
    have h2 : l.length ≤ (m.erase x).length := nodup_len (List.nodup_cons.mp hn).2 fun y hy => (List.mem_erase_of_ne (fun e => (List.nodup_cons.mp hn).1 (by subst e; exact hy))).mpr (h y (List.mem_cons_of_mem _ hy))
    rw [List.length_erase_of_mem hx] at h2
    have := List.length_pos_of_mem hx
    rw [List.length_cons]
    omega
def barN (r : Rl) (xs : List Int) (i : Nat) : Bool := decide (barsR r (xs.take i) (xs.getD i 0) = [])
def keepB (r : Rl) (xs : List Int) : Bool := (List.range xs.length).all (barN r xs)
end Lib

namespace Lib
open PySem L2 TL
end Lib

namespace Lib
open PySem L2 TL
/-- sums are asked of positive numbers -/
def Pos (r : Rl) (xs : List Int) : Prop := isS r = true → ∀ x ∈ xs, 1 ≤ x
theorem Pos.sub {r : Rl} {xs ys : List Int} (h : Pos r xs) (hm : ∀ y ∈ ys, y ∈ xs) : Pos r ys := fun e y hy => h e y (hm y hy)
theorem SmOk.pos {r : Rl} {m : Int} {xs : List Int} (h : SmOk r m xs) : Pos r xs := fun e x hx => by
  have := (h.bd x hx).1
  cases r <;> first | exact this | cases e
end Lib

namespace Lib
open PySem L2 TL
def nb (r : Rl) (xs : List Int) (n : Int) : List Int := match r with
  | .evens => xs.map fun x => 2 * n - x
  | .sums => xs.map (fun x => n + x) ++ [2 * n]
  | .pairs => xs.map (fun x => 2 * n - x) ++ (List.range xs.length).flatMap fun k => (xs.take k).map fun x => xs.getD k 0 + n - x
  | .gaps ss => ss.map fun s => n + s
theorem brd_snoc {r : Rl} {xs : List Int} {n m : Int} (hs : xs.Pairwise (· < ·)) (hn : ∀ x ∈ xs, x < n) : Brd r (xs ++ [n]) m ↔ Brd r xs m ∨ m ∈ nb r xs n := by
  have me : ∀ x, x ∈ xs ++ [n] ↔ x ∈ xs ∨ x = n := fun x => by simp
  unfold Brd
  constructor
  · rintro ⟨w, h⟩
    cases r with
    | evens =>
      obtain ⟨x, y, rfl, hx, hy, hl, e⟩ := h
      rcases (me y).mp hy with hy' | rfl
      · rcases (me x).mp hx with hx' | rfl
        · exact .inl ⟨_, x, y, rfl, hx', hy', hl, e⟩
        · have := hn y hy'; omega
      · rcases (me x).mp hx with hx' | rfl
        · exact .inr (List.mem_map.mpr ⟨x, hx', e.symm⟩)
        · omega
    | sums =>
      obtain ⟨x, y, rfl, hx, hy, hl, e⟩ := h
      rcases (me y).mp hy with hy' | rfl
      · rcases (me x).mp hx with hx' | rfl
        · exact .inl ⟨_, x, y, rfl, hx', hy', hl, e⟩
        · have := hn y hy'; omega
      · refine .inr (List.mem_append.mpr ?_)
        rcases (me x).mp hx with hx' | rfl
        · exact .inl (List.mem_map.mpr ⟨x, hx', by omega⟩)
        · exact .inr (by simp; omega)
    | pairs =>
      obtain ⟨x, y, z, rfl, hx, hy, hz, hl, hl2, e⟩ := h
      rcases (me x).mp hx with hx' | rfl
      · rcases (me z).mp hz with hz' | rfl
        · rcases (me y).mp hy with hy' | rfl
          · exact .inl ⟨_, x, y, z, rfl, hx', hy', hz', hl, hl2, e⟩
          · have := hn z hz'; omega
        · refine .inr (List.mem_append.mpr ?_)
          rcases (me y).mp hy with hy' | rfl
          · obtain ⟨k, hk, ek⟩ := List.mem_iff_getElem.mp hy'
            refine .inr (List.mem_flatMap.mpr ⟨k, List.mem_range.mpr hk, List.mem_map.mpr ⟨x, (sorted_take hs (getD_at hk)).mpr ⟨hx', ?_⟩, ?_⟩⟩)
            · rw [List.getD_eq_getElem?_getD, List.getElem?_eq_getElem hk, ek]; exact hl
            · rw [List.getD_eq_getElem?_getD, List.getElem?_eq_getElem hk, ek]; exact e.symm
          · exact .inl (List.mem_map.mpr ⟨x, hx', by omega⟩)
      · rcases (me y).mp hy with hy' | rfl
        · have := hn y hy'; omega
        · omega
    | gaps ss =>
      obtain ⟨x, rfl, hx, e⟩ := h
      rcases (me x).mp hx with hx' | rfl
      · exact .inl ⟨_, x, rfl, hx', e⟩
      · exact .inr (List.mem_map.mpr ⟨_, e, by omega⟩)
  · rintro (⟨w, h⟩ | h)
    · exact (show Brd r xs m from ⟨w, h⟩).mono fun x hx => (me x).mpr (.inl hx)
    · have mx : ∀ {x}, x ∈ xs → x ∈ xs ++ [n] := fun {x} hx => (me x).mpr (.inl hx)
      have mn : n ∈ xs ++ [n] := (me n).mpr (.inr rfl)
      cases r with
      | evens =>
        obtain ⟨x, hx, e⟩ := List.mem_map.mp h
        exact ⟨_, x, n, rfl, mx hx, mn, hn x hx, e.symm⟩
      | sums =>
        rcases List.mem_append.mp h with h | h
        · obtain ⟨x, hx, e⟩ := List.mem_map.mp h
          exact ⟨_, x, n, rfl, mx hx, mn, Int.le_of_lt (hn x hx), by omega⟩
        · rw [List.mem_singleton] at h
          exact ⟨_, n, n, rfl, mn, mn, Int.le_refl _, by omega⟩
      | pairs =>
        rcases List.mem_append.mp h with h | h
        · obtain ⟨x, hx, e⟩ := List.mem_map.mp h
          exact ⟨_, x, n, n, rfl, mx hx, mn, mn, hn x hx, Int.le_refl _, by omega⟩
        · obtain ⟨k, hk, h⟩ := List.mem_flatMap.mp h
          obtain ⟨x, hx, e⟩ := List.mem_map.mp h
          have hk := List.mem_range.mp hk
          have q := (sorted_take hs (getD_at hk)).mp hx
          have hy : xs.getD k 0 ∈ xs := List.mem_of_getElem? (getD_at hk)
          exact ⟨_, x, xs.getD k 0, n, rfl, mx q.1, mx hy, mn, q.2, Int.le_of_lt (hn _ hy), by omega⟩
      | gaps ss =>
        obtain ⟨s, hs', e⟩ := List.mem_map.mp h
        exact ⟨_, n, rfl, mn, by rw [show m - n = s by omega]; exact hs'⟩
end Lib

namespace Lib
open PySem L2 TL
structure Beg (r : Rl) (xs : List Int) : Prop where
  ne : xs ≠ []
  pw : xs.Pairwise (· < ·)
  bd : ∀ x ∈ xs, 0 ≤ x ∧ x ≤ 60
  pos : Pos r xs
  len : xs.length ≤ 12
  keep : keepB r xs = true
/-- a set that keeps a rule, and the numbers that it bars -/
structure Grw (r : Rl) (xs zs : List Int) : Prop where
  pw : xs.Pairwise (· < ·)
  keep : keepB r xs = true
  nd : zs.Nodup
  mem : ∀ m, m ∈ zs ↔ Brd r xs m
  len : zs.length ≤ 50000 * xs.length
theorem Grw.nil {r : Rl} : Grw r [] [] := ⟨List.Pairwise.nil, rfl, List.nodup_nil, fun m => ⟨(by intro h; cases h), fun h => absurd h brd_nil⟩, Nat.zero_le _⟩
end Lib

namespace Lib
open PySem L2 TL
theorem sorted_ext {xs ys : List Int} (hx : xs.Pairwise (· < ·)) (hy : ys.Pairwise (· < ·)) (h : ∀ x, x ∈ xs ↔ x ∈ ys) : xs = ys := by
  have p : xs.Perm ys := (List.perm_ext_iff_of_nodup (nodup_lt hx) (nodup_lt hy)).mpr h
  exact p.eq_of_pairwise (fun a b _ _ h1 h2 => absurd h1 (by omega)) hx hy
def la (bs : List Int) : Int := bs.getLastD 0
theorem la_mem {bs : List Int} (h : bs ≠ []) : la bs ∈ bs := by
  unfold la
  rw [List.getLastD_eq_getLast?, List.getLast?_eq_some_getLast h]
  exact List.getLast_mem h
theorem la_getLast {bs : List Int} (h : bs ≠ []) : bs.getLast h = la bs := by
  unfold la
  rw [List.getLastD_eq_getLast?, List.getLast?_eq_some_getLast h]
  rfl
theorem la_ge {bs : List Int} (hp : bs.Pairwise (· < ·)) {x : Int} (hx : x ∈ bs) : x ≤ la bs := by
  have h : bs ≠ [] := List.ne_nil_of_mem hx
  rw [← la_getLast h]
  rw [← List.dropLast_concat_getLast h] at hp hx
  rcases List.mem_append.mp hx with q | q
  · exact Int.le_of_lt ((List.pairwise_append.mp hp).2.2 x q _ (List.mem_singleton.mpr rfl))
  · exact Int.le_of_eq (List.mem_singleton.mp q)
def nbW (r : Rl) (xs : List Int) (n : Int) : List (Int × List Int) := match r with
  | .evens => xs.map fun x => (2 * n - x, [x, n])
  | .sums => (xs ++ [n]).map fun x => (n + x, [x, n])
  | .pairs => xs.map (fun x => (2 * n - x, [x, n, n])) ++ (List.range xs.length).flatMap fun k => (xs.take k).map fun x => (xs.getD k 0 + n - x, [x, xs.getD k 0, n])
  | .gaps ss => ss.map fun s => (n + s, [n])
theorem nbW_bar {r : Rl} {xs : List Int} {n : Int} (hs : xs.Pairwise (· < ·)) (hn : ∀ x ∈ xs, x < n) : ∀ p ∈ nbW r xs n, barP r (xs ++ [n]) p.1 p.2 := by
  have mx : ∀ {x}, x ∈ xs → x ∈ xs ++ [n] := fun {x} hx => List.mem_append_left _ hx
  have mn : n ∈ xs ++ [n] := List.mem_append_right _ (List.mem_singleton.mpr rfl)
  intro p h
  cases r with
  | evens =>
    obtain ⟨x, hx, rfl⟩ := List.mem_map.mp h
    exact ⟨x, n, rfl, mx hx, mn, hn x hx, rfl⟩
  | sums =>
    obtain ⟨x, hx, rfl⟩ := List.mem_map.mp h
    refine ⟨x, n, rfl, hx, mn, ?_, by show n + x = x + n; omega⟩
    rcases List.mem_append.mp hx with q | q
    · exact Int.le_of_lt (hn x q)
    · exact Int.le_of_eq (List.mem_singleton.mp q)
  | pairs =>
    rcases List.mem_append.mp h with h | h
    · obtain ⟨x, hx, rfl⟩ := List.mem_map.mp h
      exact ⟨x, n, n, rfl, mx hx, mn, mn, hn x hx, Int.le_refl _, by show 2 * n - x = n + n - x; omega⟩
    · obtain ⟨k, hk, h⟩ := List.mem_flatMap.mp h
      obtain ⟨x, hx, rfl⟩ := List.mem_map.mp h
      have hk := List.mem_range.mp hk
      have q := (sorted_take hs (getD_at hk)).mp hx
      have hy : xs.getD k 0 ∈ xs := List.mem_of_getElem? (getD_at hk)
      exact ⟨x, xs.getD k 0, n, rfl, mx q.1, mx hy, mn, q.2, Int.le_of_lt (hn _ hy), rfl⟩
  | gaps ss =>
    obtain ⟨s, hs', rfl⟩ := List.mem_map.mp h
    exact ⟨n, rfl, mn, by show n + s - n ∈ ss; rw [show n + s - n = s by omega]; exact hs'⟩
theorem nbW_fst {r : Rl} {xs : List Int} {n : Int} : ∀ m, m ∈ (nbW r xs n).map (·.1) ↔ m ∈ nb r xs n := by
  intro m
  cases r with
  | evens => simp [nbW, nb]
  | sums =>
    simp only [nbW, nb, List.map_append, List.map_cons, List.map_nil, List.mem_append, List.map_map, List.mem_singleton, List.mem_map, Function.comp]
    rw [show n + n = 2 * n by omega]
  | pairs =>
    simp only [nbW, nb, List.map_append, List.mem_append, List.map_map, List.mem_map, Function.comp, List.map_flatMap, List.mem_flatMap]
  | gaps ss => simp [nbW, nb]
end Lib

namespace Lib
open PySem L2 TL
end Lib

namespace Lib
open PySem L2 TL
structure GCls (K : PySem.W.Frag) (C : Addr) : Prop where
  cl : Cls K C
  nr : NoAttr K C "rule"
  nn : NoAttr K C "numbers"
  nb : NoAttr K C "barred"
def gF (v : V) (pn pb : Addr) : List (Str × V) := [("rule", v), ("numbers", .ref pn), ("barred", .ref pb)]
structure GAt (K : PySem.W.Frag) (C : Addr) (F H : Hp) (p pn pb : Addr) (r : Rl) (xs zs : List Int) (ws : List (List Int)) : Prop where
  sub : Same F H
  ob : ∃ dx v, H p = some (.ins C dx (gF v pn pb)) ∧ Rep K F (ruleT r) v
  nm : H pn = some (.lst (xs.map V.int))
  br : ∃ kvs, H pb = some (.dK kvs) ∧ kvs.map (·.1) = zs.map Sum.inl ∧ Reps K F (ws.map tupI) (kvs.map (·.2))
  fp : F p = none
  fn : F pn = none
  fb : F pb = none
theorem GAt.ne1 {K : PySem.W.Frag} {C : Addr} {F H : Hp} {p pn pb : Addr} {r : Rl} {xs zs : List Int} {ws : List (List Int)} (g : GAt K C F H p pn pb r xs zs ws) : p ≠ pn ∧ p ≠ pb ∧ pn ≠ pb := by
  obtain ⟨dx, v, h1, _⟩ := g.ob
  obtain ⟨kvs, h2, _⟩ := g.br
  exact ⟨ne_of h1 g.nm (by intro z; cases z), ne_of h1 h2 (by intro z; cases z), ne_of g.nm h2 (by intro z; cases z)⟩
theorem GAt.step {K : PySem.W.Frag} {C : Addr} {F H F' H' : Hp} {p pn pb : Addr} {r : Rl} {xs zs : List Int} {ws : List (List Int)} (g : GAt K C F H p pn pb r xs zs ws) (s : Same F F') (i : Same F' H') (h1 : H' p = H p) (h2 : H' pn = H pn) (h3 : H' pb = H pb) (n1 : F' p = none) (n2 : F' pn = none) (n3 : F' pb = none) : GAt K C F' H' p pn pb r xs zs ws := by
  obtain ⟨dx, v, e1, r1⟩ := g.ob
  obtain ⟨kvs, e2, ek, r2⟩ := g.br
  exact ⟨i, ⟨dx, v, h1.trans e1, Rep.mono s _ _ r1⟩, h2.trans g.nm, ⟨kvs, h3.trans e2, ek, Reps.mono s _ _ r2⟩, n1, n2, n3⟩
/-- the table as it grows: each number with its first bar -/
def gAdd (acc : List (Int × List Int)) (p : Int × List Int) : List (Int × List Int) := if p.1 ∈ acc.map (·.1) then acc else acc ++ [p]
def gT (r : Rl) (xs : List Int) : List (Int × List Int) := (List.range xs.length).foldl (fun acc i => (nbW r (xs.take i) (xs.getD i 0)).foldl gAdd acc) []
theorem foldl_same {α β : Type} {f g : α → β → α} : ∀ {l : List β} {a : α}, (∀ a, ∀ b ∈ l, f a b = g a b) → l.foldl f a = l.foldl g a
  | [], _, _ => rfl
  | b :: l, a, h => by
    rw [List.foldl_cons, List.foldl_cons, h a b List.mem_cons_self]
    exact foldl_same fun a c hc => h a c (List.mem_cons_of_mem _ hc)
theorem gT_snoc {r : Rl} {xs : List Int} {n : Int} : gT r (xs ++ [n]) = (nbW r xs n).foldl gAdd (gT r xs) := by
  unfold gT
  rw [List.length_append, List.length_singleton, List.range_succ, List.foldl_append, List.foldl_cons, List.foldl_nil, List.take_left, List.getD_eq_getElem?_getD, List.getElem?_append_right (Nat.le_refl _), Nat.sub_self]
  congr 1
  refine foldl_same fun acc i hi => ?_
  have hi := List.mem_range.mp hi
  rw [List.take_append_of_le_length (by omega), List.getD_eq_getElem?_getD, List.getElem?_append_left hi, ← List.getD_eq_getElem?_getD]
theorem zip_fst {zs : List Int} {ws : List (List Int)} (h : ws.length = zs.length) : (zs.zip ws).map (·.1) = zs := List.map_fst_zip (by omega)
/-- what the dict holds: the barred numbers, each with a bar -/
structure Gw (r : Rl) (xs zs : List Int) (ws : List (List Int)) : Prop where
  nd : zs.Nodup
  len : ws.length = zs.length
  mem : ∀ m, m ∈ zs ↔ Brd r xs m
  bar : ∀ (i : Nat) m w, zs[i]? = some m → ws[i]? = some w → barP r xs m w
  det : zs.zip ws = gT r xs
theorem Gw.nil {r : Rl} : Gw r [] [] [] := ⟨List.nodup_nil, rfl, fun m => ⟨(by intro h; cases h), fun h => absurd h brd_nil⟩, (fun i m w h _ => by simp at h), rfl⟩
theorem barP_mono {r : Rl} {xs ys : List Int} {m : Int} {w : List Int} (h : ∀ x ∈ xs, x ∈ ys) (hb : barP r xs m w) : barP r ys m w := by
  cases r with
  | evens => obtain ⟨x, y, e, hx, hy, q⟩ := hb; exact ⟨x, y, e, h x hx, h y hy, q⟩
  | sums => obtain ⟨x, y, e, hx, hy, q⟩ := hb; exact ⟨x, y, e, h x hx, h y hy, q⟩
  | pairs => obtain ⟨x, y, z, e, hx, hy, hz, q⟩ := hb; exact ⟨x, y, z, e, h x hx, h y hy, h z hz, q⟩
  | gaps ss => obtain ⟨x, e, hx, q⟩ := hb; exact ⟨x, e, h x hx, q⟩
/-- within a put: so many of the new bars are in -/
structure GwP (r : Rl) (xs : List Int) (n : Int) (i : Nat) (zs : List Int) (ws : List (List Int)) : Prop where
  nd : zs.Nodup
  len : ws.length = zs.length
  mem : ∀ m, m ∈ zs ↔ Brd r xs m ∨ m ∈ ((nbW r xs n).take i).map (·.1)
  bar : ∀ (i : Nat) m w, zs[i]? = some m → ws[i]? = some w → barP r (xs ++ [n]) m w
  det : zs.zip ws = ((nbW r xs n).take i).foldl gAdd (gT r xs)
theorem Gw.p {r : Rl} {xs zs : List Int} {ws : List (List Int)} {n : Int} (g : Gw r xs zs ws) : GwP r xs n 0 zs ws :=
  ⟨g.nd, g.len, fun m => by rw [g.mem]; simp, fun i m w h1 h2 => barP_mono (fun x hx => List.mem_append_left _ hx) (g.bar i m w h1 h2), g.det⟩
theorem GwP.q {r : Rl} {xs zs : List Int} {ws : List (List Int)} {n : Int} (g : GwP r xs n (nbW r xs n).length zs ws) (hs : xs.Pairwise (· < ·)) (hn : ∀ x ∈ xs, x < n) : Gw r (xs ++ [n]) zs ws :=
  ⟨g.nd, g.len, fun m => by rw [g.mem, List.take_length, nbW_fst, brd_snoc hs hn], g.bar, by rw [gT_snoc, g.det, List.take_length]⟩
theorem GwP.old {r : Rl} {xs zs : List Int} {ws : List (List Int)} {n m : Int} {w : List Int} {i : Nat} (g : GwP r xs n i zs ws) (e : (nbW r xs n)[i]? = some (m, w)) (h : m ∈ zs) : GwP r xs n (i + 1) zs ws :=
  ⟨g.nd, g.len, fun k => by
    rw [g.mem, List.take_add_one, e, List.map_append, List.mem_append]
    constructor
    · rintro (h | h)
      · exact .inl h
      · exact .inr (.inl h)
    · rintro (h' | h' | h')
      · exact .inl h'
      · exact .inr h'
      · simp at h'
        subst h'
        exact (g.mem _).mp h, g.bar, by
    rw [List.take_add_one, e, List.foldl_append, ← g.det]
    show _ = gAdd (zs.zip ws) (m, w)
    unfold gAdd
    rw [zip_fst g.len, if_pos h]⟩
theorem GwP.new {r : Rl} {xs zs : List Int} {ws : List (List Int)} {n m : Int} {w : List Int} {i : Nat} (hs : xs.Pairwise (· < ·)) (hn : ∀ x ∈ xs, x < n) (g : GwP r xs n i zs ws) (e : (nbW r xs n)[i]? = some (m, w)) (h : m ∉ zs) : GwP r xs n (i + 1) (zs ++ [m]) (ws ++ [w]) := by
  refine ⟨?_, by rw [List.length_append, List.length_append, g.len]; rfl, fun k => ?_, fun j k u h1 h2 => ?_, by
    rw [List.take_add_one, e, List.foldl_append, ← g.det, List.zip_append g.len.symm]
    show _ = gAdd (zs.zip ws) (m, w)
    unfold gAdd
    rw [zip_fst g.len, if_neg h]
    rfl⟩
  · rw [List.nodup_append]
    exact ⟨g.nd, by simp, fun a ha b hb => by rw [List.mem_singleton] at hb; subst hb; exact fun e => h (by rw [← e]; exact ha)⟩
  · rw [List.mem_append, g.mem, List.take_add_one, e, List.map_append, List.mem_append]
    simp [or_assoc]
  · by_cases hj : j < zs.length
    · rw [List.getElem?_append_left hj] at h1
      rw [List.getElem?_append_left (by rw [g.len]; exact hj)] at h2
      exact g.bar j k u h1 h2
    · rw [List.getElem?_append_right (by omega)] at h1
      rw [List.getElem?_append_right (by rw [g.len]; omega), g.len] at h2
      have e1 : j - zs.length = 0 := by
        have := (List.getElem?_eq_some_iff.mp h1).1
        simp at this
        omega
      rw [e1] at h1 h2
      simp at h1 h2
      subst h1 h2
      exact nbW_bar hs hn _ (List.mem_of_getElem? e)
end Lib

namespace Lib
open PySem L2 TL
end Lib

namespace Lib
open PySem L2 TL
/-- frozen all of it: what is told of the caller's heap -/
structure Fz3 (K : PySem.W.Frag) (F H F' H' : Hp) : Prop where
  sub : Same F F'
  in_ : Same F' H'
  new : ∀ a, F' a ≠ none → F a ≠ none ∨ H a = none
  fr : Same H H'
theorem same_non {H H' : Hp} (h : Same H H') {a : Addr} (ha : H' a = none) : H a = none := by
  cases e : H a with
  | none => rfl
  | some o => rw [h a o e] at ha; cases ha
theorem Fz3.trans {K : PySem.W.Frag} {F H F1 H1 F2 H2 : Hp} (a : Fz3 K F H F1 H1) (b : Fz3 K F1 H1 F2 H2) : Fz3 K F H F2 H2 :=
  ⟨a.sub.trans b.sub, b.in_, fun x h => (b.new x h).elim (a.new x) fun q => .inr (same_non a.fr q), a.fr.trans b.fr⟩
abbrev growT (r : Rl) (xs zs : List Int) (ws : List (List Int)) : T := .ins gNs [ruleT r, .lst (xs.map T.int), .dct (zs.map Sum.inl) (ws.map tupI)]
/-- all of it is frozen -/
theorem GAt.freeze {K : PySem.W.Frag} {C : Addr} {F H : Hp} {p pn pb : Addr} {r : Rl} {xs zs : List Int} {ws : List (List Int)} (G : GCls K C) (g : GAt K C F H p pn pb r xs zs ws) (hl : xs.length ≤ sizeLine) (hz : zs.length ≤ sizeLine) :
    ∃ F', Same F F' ∧ Same F' H ∧ (∀ a, F' a ≠ none → F a ≠ none ∨ a = p ∨ a = pn ∨ a = pb) ∧ Rep K F' (growT r xs zs ws) (.ref p) := by
  obtain ⟨dx, v, hp, rv⟩ := g.ob
  obtain ⟨kvs, hb, hk, hbr⟩ := g.br
  obtain ⟨n1, n2, n3⟩ := g.ne1
  refine ⟨upd (upd (upd F p (.ins C dx (gF v pn pb))) pn (.lst (xs.map V.int))) pb (.dK kvs), ?s, fun a o e => ?_, fun a h => ?_, ?_⟩
  case s =>
    intro a o e
    have q : ∀ b, F b = none → a ≠ b := fun b hb z => by subst z; rw [hb] at e; cases e
    rw [upd_ne (q pb g.fb), upd_ne (q pn g.fn), upd_ne (q p g.fp)]
    exact e
  · by_cases e1 : a = pb
    · subst e1; rw [upd_same] at e; cases e; exact hb
    · rw [upd_ne e1] at e
      by_cases e2 : a = pn
      · subst e2; rw [upd_same] at e; cases e; exact g.nm
      · rw [upd_ne e2] at e
        by_cases e3 : a = p
        · subst e3; rw [upd_same] at e; cases e; exact hp
        · rw [upd_ne e3] at e; exact g.sub a o e
  · by_cases e1 : a = pb
    · exact .inr (.inr (.inr e1))
    · rw [upd_ne e1] at h
      by_cases e2 : a = pn
      · exact .inr (.inr (.inl e2))
      · rw [upd_ne e2] at h
        by_cases e3 : a = p
        · exact .inr (.inl e3)
        · rw [upd_ne e3] at h; exact .inl h
  · have s : Same F (upd (upd (upd F p (.ins C dx (gF v pn pb))) pn (.lst (xs.map V.int))) pb (.dK kvs)) := by
      intro a o e
      have q : ∀ b, F b = none → a ≠ b := fun b hb z => by subst z; rw [hb] at e; cases e
      rw [upd_ne (q pb g.fb), upd_ne (q pn g.fn), upd_ne (q p g.fp)]
      exact e
    refine ⟨p, C, dx, [v, .ref pn, .ref pb], rfl, ?_, G.cl, ?_, rfl, v, _, rfl, Rep.mono s _ _ rv, .ref pn, _, rfl, ⟨pn, _, rfl, ?_, by rw [List.length_map]; exact hl, Reps.ints.mpr rfl⟩, .ref pb, _, rfl, ⟨pb, kvs, rfl, .inl upd_same, ?_, hk, Reps.mono s _ _ hbr⟩, rfl⟩
    · rw [upd_ne n2, upd_ne n1, upd_same]
      rfl
    · intro n hn
      simp only [List.mem_cons, List.not_mem_nil, or_false] at hn
      rcases hn with rfl | rfl | rfl
      · exact G.nr
      · exact G.nn
      · exact G.nb
    · rw [upd_ne n3, upd_same]
    · have := congrArg List.length hk
      simp only [List.length_map] at this
      omega
end Lib

namespace Lib
open PySem L2 TL
end Lib

namespace Lib
open PySem L2 TL
end Lib

namespace Lib
open PySem L2 TL
end Lib

namespace Lib
open PySem L2 TL
theorem atI_laT {xs : List Int} (h : xs ≠ []) : atI (xs.map T.int) (-1) = some (.int (la xs)) := by rw [atI_last_int h, la_getLast]
theorem atI_0T {xs : List Int} (h : xs ≠ []) : atI (xs.map T.int) 0 = some (.int (xs.getD 0 0)) := by
  have := atI_getD (xs := xs) (i := 0) (List.length_pos_iff.mpr h)
  exact this
/-- a set, and the numbers that it bars, by any count -/
structure Grv (r : Rl) (xs zs : List Int) : Prop where
  nd : zs.Nodup
  mem : ∀ m, m ∈ zs ↔ Brd r xs m
def okT : T → Bool
  | .non => true
  | .bl _ => true
  | .int _ => true
  | .str _ => true
  | .tup _ => true
  | .lst _ => true
  | .dct _ _ => true
  | _ => false
def isIntT : T → Bool
  | .int _ => true
  | _ => false
theorem isi_int_dct {ks : List Key} {ts : List T} : isiT "int" (.dct ks ts) = some false := rf rfl
end Lib

namespace Lib
open PySem L2 TL
theorem fz2 {τ : TSt} {a b : Nat} (ha : frzAt τ a) (hb : frzAt τ b) : ∀ v ∈ [a, b], frzAt τ v := fun v hv => by
  simp only [List.mem_cons, List.not_mem_nil, or_false] at hv
  rcases hv with rfl | rfl
  · exact ha
  · exact hb
end Lib

namespace Lib
open PySem L2 TL
def sp_is_whole_a : TSp := fun as PR PX => ∃ t, as = [fz t] ∧ okT t = true ∧ PR (.val false (.bl (isIntT t))) [t]
def rd_is_whole_a : TTS := ttRet (ttAndV (ttIsi "int" (tv 0)) (ttNotV (ttIsi "bool" (tv 0))))
theorem ln_is_whole_a : ∀ as PR PX, sp_is_whole_a as PR PX → as.length = 1 := by
  rintro as PR PX ⟨t, rfl, _⟩
  rfl
theorem i_is_whole {t : T} {PR : R → List T → Prop} {PX : String → List T → Prop} (h : okT t = true) (k : PR (.val false (.bl (isIntT t))) [t]) : sp_is_whole_a [fz t] PR PX := ⟨t, rfl, h, k⟩
theorem isi_tup_dct {ks : List Key} {ts : List T} : isiT "tuple" (.dct ks ts) = some false := rf rfl
theorem ok_is_whole_a : ∀ as PR PX, sp_is_whole_a as PR PX → rd_is_whole_a (endsT as PR) (startT 1 as) := by
  rintro as PR PX ⟨t, rfl, h, k⟩
  unfold rd_is_whole_a
  cases t with
  | non => walk_at "tl"; exact k
  | bl b => walk_at "tl"; exact k
  | int i => walk_at "tl"; exact k
  | str x => walk_at "tl"; exact k
  | tup ts => walk_at "tl"; exact k
  | lst ts => walk_at "tl"; exact k
  | dct ks ts =>
    walk_at "tl"
    rw [isi_int_dct]
    walk_at "tl"
    exact k
  | _ => cases h
/-- rising ints -/
def rsB (xs : List Int) : Bool := decide (xs.Pairwise (· < ·))
def intV : T → Int
  | .int i => i
  | _ => 0
def risB : T → Bool
  | .tup ts => ts.all isIntT && rsB (ts.map intV)
  | _ => false
theorem risB_tup {ts : List T} : risB (.tup ts) = (ts.all isIntT && rsB (ts.map intV)) := rfl
theorem risB_ints {xs : List Int} : risB (.tup (xs.map T.int)) = rsB xs := by
  rw [risB_tup, List.map_map]
  have e : List.map (intV ∘ T.int) xs = xs := by
    induction xs with
    | nil => rfl
    | cons x xs ih => rw [List.map_cons, ih]; rfl
  rw [e]
  simp [isIntT]
theorem ints_of : ∀ {ts : List T}, ts.all isIntT = true → ∃ xs : List Int, ts = xs.map T.int
  | [], _ => ⟨[], rfl⟩
  | t :: ts, h => by
    rw [List.all_cons, Bool.and_eq_true] at h
    obtain ⟨xs, rfl⟩ := ints_of h.2
    cases t with
    | int i => exact ⟨i :: xs, rfl⟩
    | _ => cases h.1
/-- a thing whose parts may be looked at -/
def okT2 : T → Prop
  | .tup ts => (∀ t ∈ ts, okT t = true) ∧ ts.length ≤ 1000
  | t => okT t = true
def sp_is_rising_a : TSp := fun as PR PX => ∃ t, as = [fz t] ∧ okT2 t ∧ PR (.val false (.bl (risB t))) [t]
def rd_is_rising_a : TTS := ttSeq (ttIfS (ttOr (ttNot (ttB (ttIsi "tuple" (tv 0)))) (ttNot (ttB (ttC1 allT (ttLc (tiSeq (sl 0)) (tgN 3) (ttYes) (ttCall sp_is_whole_a nox (taF (tv 3) (taNil))) [3]))))) (ttRet (tk (.bl false))) (ttNext))
  (ttRet (ttC1 allT (ttLc (tiZp (tlcons (tv 0) (tlcons (ttSl (tv 0) (toS (tk (.int 1))) (toN)) (tlnil)))) (tgTup 2 (tgsCons (tgN 1) (tgsCons (tgN 2) (tgsNil)))) (ttYes) (ttBin (ltT) (tv 1) (tv 2)) [1, 2])))
theorem ln_is_rising_a : ∀ as PR PX, sp_is_rising_a as PR PX → as.length = 1 := by
  rintro as PR PX ⟨t, rfl, _⟩
  rfl
theorem i_is_rising {t : T} {PR : R → List T → Prop} {PX : String → List T → Prop} (h : okT2 t) (k : PR (.val false (.bl (risB t))) [t]) : sp_is_rising_a [fz t] PR PX := ⟨t, rfl, h, k⟩
theorem ok_is_rising_a : ∀ as PR PX, sp_is_rising_a as PR PX → rd_is_rising_a (endsT as PR) (startT 4 as) := by
  rintro as PR PX ⟨t, rfl, h, k⟩
  have sz := sizeLine_val
  unfold rd_is_rising_a
  cases t with
  | non => walk_at "tl"; exact k
  | bl b => walk_at "tl"; exact k
  | int i => walk_at "tl"; exact k
  | str x => walk_at "tl"; exact k
  | lst ts => walk_at "tl"; exact k
  | dct ks ts =>
    walk_at "tl"
    rw [isi_tup_dct]
    walk_at "tl"
    exact k
  | tup ts =>
    obtain ⟨h1, h2⟩ := h
    walk_at "tl"
    refine lcT_m (fun t => .bl (isIntT t)) (by walk_at "fz") (by omega) (fun t ht => ?_) ?_
    · walk_at "tl"
      refine i_is_whole (h1 t ht) ?_
      walk_at "tl"
    rw [show ts.map (fun t => T.bl (isIntT t)) = (ts.map isIntT).map T.bl by rw [List.map_map]; rfl]
    walk_at "tl"
    rw [show (ts.map isIntT).all _root_.id = ts.all isIntT by simp [List.all_map]]
    refine cnd_b (fun hi => ?_) (fun hi => ?_)
    · obtain ⟨xs, rfl⟩ := ints_of hi
      rw [List.length_map] at h2
      rw [risB_ints] at k
      walk_at "tl"
      rw [show (1 : Int) = ((1 : Nat) : Int) from rfl, cut_dropI]
      refine lcT_zb (fun x y => decide (x < y)) (fz2 (frzAt_none rfl) (frzAt_none rfl)) (by omega) (fun x y hxy => ?_) ?_
      · walk_at "tl"
      walk_at "tl"
      rw [show (((xs.zip (xs.drop 1)).map fun p => decide (p.1 < p.2)).all _root_.id) = rsB xs by
        rw [Bool.eq_iff_iff, all_id]
        unfold rsB
        rw [decide_eq_true_eq, pw_tail]
        constructor
        · intro q p hp
          have := q _ (List.mem_map.mpr ⟨p, hp, rfl⟩)
          exact of_decide_eq_true this
        · intro q b hb
          obtain ⟨p, hp, rfl⟩ := List.mem_map.mp hb
          exact decide_eq_true (q p hp)]
      exact k
    · walk_at "tl"
      rw [show risB (.tup ts) = false by rw [risB_tup, hi]; rfl] at k
      exact k
  | _ => cases h
theorem ris_inv {t : T} (h : risB t = true) : ∃ xs : List Int, t = .tup (xs.map T.int) := by
  cases t with
  | tup ts =>
    rw [risB_tup, Bool.and_eq_true] at h
    obtain ⟨xs, rfl⟩ := ints_of h.1
    exact ⟨xs, rfl⟩
  | _ => cases h
theorem intV_ints {xs : List Int} : (xs.map T.int).map intV = xs := by
  rw [List.map_map]
  induction xs with
  | nil => rfl
  | cons x xs ih => rw [List.map_cons, ih]; rfl
end Lib

namespace Lib
open PySem L2 TL
abbrev SOk (s : Str) : Prop := PyData.strOk s = true
theorem q_eq_str {a b : Str} {k : Bool → T → Prop} (ha : SOk a) (hb : SOk b) : eqT (.str a) (.str b) k = k false (.bl (decide (a = b))) := by
  unfold eqT
  rw [eo_str ha, eo_str hb, ev_str]
  simp
theorem q_ne_str {a b : Str} {k : Bool → T → Prop} (ha : SOk a) (hb : SOk b) : neT (.str a) (.str b) k = k false (.bl (!decide (a = b))) := by
  unfold neT
  rw [eo_str ha, eo_str hb, ev_str]
  simp
def setL (xs : List Int) : List Nat := if xs = [] then [45] else joinL [32] (xs.map fun x => numL x.toNat)
def setS (xs : List Int) : Str := ⟨(setL xs).toArray⟩
structure FigI (n : Int) (s : Str) (m : Nat) : Prop where
  go : 0 < m → numL n.toNat = numL m ++ tl s
  fin : m = 0 → n ≠ 0 → numL n.toNat = tl s
  z : n = 0 → s = "" ∧ m = 0
  le : (m : Int) ≤ n
  len : s.length + (if m = 0 then 0 else (numL m).length) ≤ 101
end Lib

namespace Lib
open PySem L2 TL
structure NumsOk (xs : List Int) : Prop where
  nn : ∀ x ∈ xs, 0 ≤ x
  lt : ∀ x ∈ xs, x < 10 ^ 100
  len : xs.length ≤ 1000
end Lib

namespace Lib
open PySem L2 TL
theorem NumsOk.take {xs : List Int} (h : NumsOk xs) (i : Nat) : NumsOk (xs.take i) := ⟨fun x hx => h.nn x (List.mem_of_mem_take hx), fun x hx => h.lt x (List.mem_of_mem_take hx), by have := h.len; rw [List.length_take]; omega⟩
end Lib

namespace Lib
open PySem L2 TL
end Lib

namespace Lib
open PySem L2 TL
abbrev wordsS (s : Str) : List Str := Txt.split s " "
end Lib

namespace Lib
open PySem L2 TL
def stepsI (xs : List Int) : Bool := rsB xs && (decide (1 ≤ xs.length ∧ xs.length ≤ 4) && (decide (1 ≤ xs.getD 0 0) && decide (la xs ≤ 10)))
def stepsB (t : T) : Bool := risB t && match t with
  | .tup ts => stepsI (ts.map intV)
  | _ => false
theorem stepsB_ints {xs : List Int} : stepsB (.tup (xs.map T.int)) = stepsI xs := by
  show (risB (.tup (xs.map T.int)) && stepsI ((xs.map T.int).map intV)) = _
  rw [risB_ints, intV_ints]
  unfold stepsI
  cases rsB xs <;> rfl
def sp_is_steps_a : TSp := fun as PR PX => ∃ t, as = [fz t] ∧ okT2 t ∧ PR (.val false (.bl (stepsB t))) [t]
def rd_is_steps_a : TTS := ttSeq (ttIfS (ttOr (ttNot (ttB (ttCall sp_is_rising_a nox (taF (tv 0) (taNil))))) (ttNot (ttB (ttChain (leT) (leT) (tk (.int 1)) (ttC1 lenT (tv 0)) (tk (.int 4)))))) (ttRet (tk (.bl false))) (ttNext))
  (ttRet (ttAndV (ttBin (leT) (tk (.int 1)) (ttIx (tv 0) (tk (.int 0)))) (ttBin (leT) (ttIx (tv 0) (ttU negT (tk (.int 1)))) (tk (.int 10)))))
theorem ln_is_steps_a : ∀ as PR PX, sp_is_steps_a as PR PX → as.length = 1 := by
  rintro as PR PX ⟨t, rfl, _⟩
  rfl
theorem i_is_steps {t : T} {PR : R → List T → Prop} {PX : String → List T → Prop} (h : okT2 t) (k : PR (.val false (.bl (stepsB t))) [t]) : sp_is_steps_a [fz t] PR PX := ⟨t, rfl, h, k⟩
theorem ok_is_steps_a : ∀ as PR PX, sp_is_steps_a as PR PX → rd_is_steps_a (endsT as PR) (startT 1 as) := by
  rintro as PR PX ⟨t, rfl, h, k⟩
  have sz := sizeLine_val
  unfold rd_is_steps_a
  walk_at "tl"
  refine i_is_rising h ?_
  walk_at "tl"
  refine cnd_b (fun hr => ?_) (fun hr => ?_)
  rotate_left
  · walk_at "tl"
    rw [show stepsB t = false by unfold stepsB; rw [hr]; rfl] at k
    exact k
  obtain ⟨xs, rfl⟩ := ris_inv hr
  rw [stepsB_ints] at k
  rw [risB_ints] at hr
  unfold stepsI at k
  rw [hr] at k
  walk_at "tl"
  rw [List.length_map]
  refine cnd_2 (fun h1 => ?_) (fun h1 => ?_)
  rotate_left
  · walk_at "tl"
    rw [decide_eq_false (by omega : ¬(1 ≤ xs.length ∧ xs.length ≤ 4))] at k
    exact k
  walk_at "tl"
  refine cnd_2 (fun h2 => ?_) (fun h2 => ?_)
  rotate_left
  · walk_at "tl"
    rw [decide_eq_false (by omega : ¬(1 ≤ xs.length ∧ xs.length ≤ 4))] at k
    exact k
  rw [decide_eq_true (by omega : 1 ≤ xs.length ∧ xs.length ≤ 4)] at k
  have hne : xs ≠ [] := List.length_pos_iff.mp (by omega)
  walk_at "tl"
  refine ⟨_, atI_0T hne, ?_⟩
  walk_at "tl"
  refine cnd_2 (fun h3 => ?_) (fun h3 => ?_)
  rotate_left
  · walk_at "tl"
    rw [decide_eq_false h3] at k
    exact k
  rw [decide_eq_true h3] at k
  walk_at "tl"
  refine ⟨_, atI_laT hne, ?_⟩
  walk_at "tl"
  exact k
def wordR (s : Str) : Bool := decide (s = "evens") || (decide (s = "sums") || decide (s = "pairs"))
def ruleB : T → Bool
  | .tup [.str s] => wordR s
  | .tup [.str s, b] => decide (s = "gaps") && stepsB b
  | _ => false
def okT4 : T → Prop
  | .tup ts => ts.length ≤ 1000 ∧ ∀ a ∈ ts, okT2 a ∧ ∀ s, a = .str s → SOk s
  | t => okT t = true
def sp_is_rule_a : TSp := fun as PR PX => ∃ t, as = [fz t] ∧ okT4 t ∧ PR (.val false (.bl (ruleB t))) [t]
def rd_is_rule_a : TTS := ttSeq (ttIfS (ttNot (ttB (ttIsi "tuple" (tv 0)))) (ttRet (tk (.bl false))) (ttNext))
  (ttSeq (ttIfS (ttB (ttBin (eqT) (ttC1 lenT (tv 0)) (tk (.int 2)))) (ttRet (ttAndV (ttIsi "str" (ttIx (tv 0) (tk (.int 0)))) (ttAndV (ttBin (eqT) (ttIx (tv 0) (tk (.int 0))) (tk (.str "gaps"))) (ttCall sp_is_steps_a nox (taF (ttIx (tv 0) (tk (.int 1))) (taNil)))))) (ttNext))
  (ttRet (ttAndV (ttBin (eqT) (ttC1 lenT (tv 0)) (tk (.int 1))) (ttAndV (ttIsi "str" (ttIx (tv 0) (tk (.int 0)))) (ttBin (inT false) (tv 0) (tk (.tup [.tup [.str "evens"], .tup [.str "sums"], .tup [.str "pairs"]])))))))
theorem ln_is_rule_a : ∀ as PR PX, sp_is_rule_a as PR PX → as.length = 1 := by
  rintro as PR PX ⟨t, rfl, _⟩
  rfl
theorem i_is_rule {t : T} {PR : R → List T → Prop} {PX : String → List T → Prop} (h : okT4 t) (k : PR (.val false (.bl (ruleB t))) [t]) : sp_is_rule_a [fz t] PR PX := ⟨t, rfl, h, k⟩
theorem isi_str_dct {ks : List Key} {ts : List T} : isiT "str" (.dct ks ts) = some false := rf rfl
theorem ev_s1 {a b : Str} : T.eqv (.tup [.str a]) (.tup [.str b]) = decide (a = b) := by
  rw [ev_tup]
  show (PyData.eqv (.str a) (.str b) && true) = _
  rw [Bool.and_true]
  exact ev_str
theorem eo_s1 {a : Str} (h : SOk a) : eqOk (.tup [.str a]) = true := (ok1_tup (d := 0) fun t ht => by
  rw [List.mem_singleton.mp ht]
  exact ok1_str h).eqOk (by decide)
theorem q_in_plain {s : Str} (hs : SOk s) {k : Bool → T → Prop} : inT false (.tup [.str s]) (.tup [.tup [.str "evens"], .tup [.str "sums"], .tup [.str "pairs"]]) k = k false (.bl (wordR s)) := by
  show ((eqOk _ && eqOk _) = true ∧ k false (.bl (false != ([T.tup [.str "evens"], T.tup [.str "sums"], T.tup [.str "pairs"]].any fun t => T.eqv t (.tup [.str s]))))) = _
  rw [eo_s1 hs, show eqOk (.tup [.tup [.str "evens"], .tup [.str "sums"], .tup [.str "pairs"]]) = true by decide +kernel]
  simp only [List.any_cons, List.any_nil, ev_s1, Bool.or_false, Bool.false_bne, Bool.and_self, true_and]
  rw [show wordR s = (decide ("evens" = s) || (decide ("sums" = s) || decide ("pairs" = s))) by
    unfold wordR
    simp only [eq_comm]]
theorem ok_is_rule_a : ∀ as PR PX, sp_is_rule_a as PR PX → rd_is_rule_a (endsT as PR) (startT 1 as) := by
  rintro as PR PX ⟨t, rfl, h, k⟩
  have sz := sizeLine_val
  unfold rd_is_rule_a
  cases t with
  | non => walk_at "tl"; exact k
  | bl b => walk_at "tl"; exact k
  | int i => walk_at "tl"; exact k
  | str x => walk_at "tl"; exact k
  | lst ts => walk_at "tl"; exact k
  | dct ks ts =>
    walk_at "tl"
    rw [isi_tup_dct]
    walk_at "tl"
    exact k
  | tup ts =>
    obtain ⟨h1, h2⟩ := h
    match ts, h1, h2, k with
    | [], _, _, k =>
      walk_at "tl"
      refine cnd_F (by decide) ?_
      walk_at "tl"
      refine cnd_F (by decide) ?_
      walk_at "tl"
      exact k
    | [a], _, h2, k =>
      obtain ⟨g1, g2⟩ := h2 a List.mem_cons_self
      walk_at "tl"
      refine cnd_F (by decide) ?_
      walk_at "tl"
      refine cnd_T (by rfl) ?_
      cases a with
      | str s =>
        walk_at "tl"
        rw [q_in_plain (g2 s rfl)]
        walk_at "tl"
        exact k
      | non => walk_at "tl"; exact k
      | bl b => walk_at "tl"; exact k
      | int i => walk_at "tl"; exact k
      | tup ts => walk_at "tl"; exact k
      | lst ts => walk_at "tl"; exact k
      | dct ks ts =>
        walk_at "tl"
        rw [isi_str_dct]
        walk_at "tl"
        exact k
      | _ => cases g1
    | [a, b], _, h2, k =>
      obtain ⟨g1, g2⟩ := h2 a List.mem_cons_self
      obtain ⟨g3, g4⟩ := h2 b (List.mem_cons_of_mem _ List.mem_cons_self)
      walk_at "tl"
      refine cnd_T (by rfl) ?_
      cases a with
      | str s =>
        walk_at "tl"
        rw [q_eq_str (g2 s rfl) (by decide +kernel)]
        walk_at "tl"
        have k : PR (.val false (.bl (decide (s = "gaps") && stepsB b))) [.tup [.str s, b]] := k
        refine cnd_2 (fun g => ?_) (fun g => ?_)
        · walk_at "tl"
          refine i_is_steps g3 ?_
          rw [decide_eq_true g] at k
          walk_at "tl"
          exact k
        · walk_at "tl"
          rw [decide_eq_false g] at k
          exact k
      | non => walk_at "tl"; exact k
      | bl b => walk_at "tl"; exact k
      | int i => walk_at "tl"; exact k
      | tup ts => walk_at "tl"; exact k
      | lst ts => walk_at "tl"; exact k
      | dct ks ts =>
        walk_at "tl"
        rw [isi_str_dct]
        walk_at "tl"
        exact k
      | _ => cases g1
    | a :: b :: c :: r, _, h2, k =>
      walk_at "tl"
      refine cnd_F (by omega) ?_
      walk_at "tl"
      refine cnd_F (by omega) ?_
      walk_at "tl"
      rw [show ruleB (.tup (a :: b :: c :: r)) = false by cases a <;> rfl] at k
      exact k
  | _ => cases h
end Lib

namespace Lib
open PySem L2 TL
def exNs : List String := ["Broken", "NoStart", "TooMuch", "TooLow", "IsIn", "NoPlace", "NoPaper", "NoText", "NoRow", "NoNumber", "NoPast"]
def kindsL (c : String) : List Bool := exNs.map fun n => isSub c [n]
def sp_law_made_a : TSp := fun as PR PX => ∃ s : Str, as = [fz (.str s)] ∧ PR (.val true (.lst (exNs.map T.exn))) [.str s]
def rd_law_made_a : TTS := ttSeq (ttSet 1 (ttLst (tlcons (ttNewX "Broken" (tv 0)) (tlcons (ttNewX "NoStart" (tv 0)) (tlcons (ttNewX "TooMuch" (tv 0)) (tlcons (ttNewX "TooLow" (tv 0)) (tlcons (ttNewX "IsIn" (tv 0)) (tlcons (ttNewX "NoPlace" (tv 0)) (tlcons (ttNewX "NoPaper" (tv 0)) (tlnil))))))))))
  (ttRet (ttBin addT (tv 1) (ttLst (tlcons (ttNewX "NoText" (tv 0)) (tlcons (ttNewX "NoRow" (tv 0)) (tlcons (ttNewX "NoNumber" (tv 0)) (tlcons (ttNewX "NoPast" (tv 0)) (tlnil))))))))
theorem ln_law_made_a : ∀ as PR PX, sp_law_made_a as PR PX → as.length = 1 := by
  rintro as PR PX ⟨s, rfl, _⟩
  rfl
theorem ok_law_made_a : ∀ as PR PX, sp_law_made_a as PR PX → rd_law_made_a (endsT as PR) (startT 2 as) := by
  rintro as PR PX ⟨s, rfl, k⟩
  have sz := sizeLine_val
  unfold rd_law_made_a
  walk_at "tl"
  walk_at "z"
  exact k
def sp_law_kinds_a : TSp := fun as PR PX => ∃ c : String, as = [fz (.exn c)] ∧ (c ∈ exNs ∨ c = "ShunError") ∧ PR (.val true (.lst ((kindsL c).map T.bl))) [.exn c]
def rd_law_kinds_a : TTS := ttSeq (ttSet 1 (ttLst (tlcons (ttIsX ["Broken", "IsIn", "NoNumber", "NoPaper", "NoPast", "NoPlace", "NoRow", "NoStart", "NoText", "ShunError", "TooLow", "TooMuch"] ["Broken"] (tv 0)) (tlcons (ttIsX ["Broken", "IsIn", "NoNumber", "NoPaper", "NoPast", "NoPlace", "NoRow", "NoStart", "NoText", "ShunError", "TooLow", "TooMuch"] ["NoStart"] (tv 0)) (tlcons (ttIsX ["Broken", "IsIn", "NoNumber", "NoPaper", "NoPast", "NoPlace", "NoRow", "NoStart", "NoText", "ShunError", "TooLow", "TooMuch"] ["TooMuch"] (tv 0)) (tlcons (ttIsX ["Broken", "IsIn", "NoNumber", "NoPaper", "NoPast", "NoPlace", "NoRow", "NoStart", "NoText", "ShunError", "TooLow", "TooMuch"] ["TooLow"] (tv 0)) (tlnil)))))))
  (ttSeq (ttSet 1 (ttBin addT (tv 1) (ttLst (tlcons (ttIsX ["Broken", "IsIn", "NoNumber", "NoPaper", "NoPast", "NoPlace", "NoRow", "NoStart", "NoText", "ShunError", "TooLow", "TooMuch"] ["IsIn"] (tv 0)) (tlcons (ttIsX ["Broken", "IsIn", "NoNumber", "NoPaper", "NoPast", "NoPlace", "NoRow", "NoStart", "NoText", "ShunError", "TooLow", "TooMuch"] ["NoPlace"] (tv 0)) (tlcons (ttIsX ["Broken", "IsIn", "NoNumber", "NoPaper", "NoPast", "NoPlace", "NoRow", "NoStart", "NoText", "ShunError", "TooLow", "TooMuch"] ["NoPaper"] (tv 0)) (tlnil)))))))
  (ttSeq (ttSet 1 (ttBin addT (tv 1) (ttLst (tlcons (ttIsX ["Broken", "IsIn", "NoNumber", "NoPaper", "NoPast", "NoPlace", "NoRow", "NoStart", "NoText", "ShunError", "TooLow", "TooMuch"] ["NoText"] (tv 0)) (tlcons (ttIsX ["Broken", "IsIn", "NoNumber", "NoPaper", "NoPast", "NoPlace", "NoRow", "NoStart", "NoText", "ShunError", "TooLow", "TooMuch"] ["NoRow"] (tv 0)) (tlcons (ttIsX ["Broken", "IsIn", "NoNumber", "NoPaper", "NoPast", "NoPlace", "NoRow", "NoStart", "NoText", "ShunError", "TooLow", "TooMuch"] ["NoNumber"] (tv 0)) (tlnil)))))))
  (ttRet (ttBin addT (tv 1) (ttLst (tlcons (ttIsX ["Broken", "IsIn", "NoNumber", "NoPaper", "NoPast", "NoPlace", "NoRow", "NoStart", "NoText", "ShunError", "TooLow", "TooMuch"] ["NoPast"] (tv 0)) (tlnil)))))))
theorem ln_law_kinds_a : ∀ as PR PX, sp_law_kinds_a as PR PX → as.length = 1 := by
  rintro as PR PX ⟨s, rfl, _⟩
  rfl
theorem ok_law_kinds_a : ∀ as PR PX, sp_law_kinds_a as PR PX → rd_law_kinds_a (endsT as PR) (startT 2 as) := by
  rintro as PR PX ⟨c, rfl, hc, k⟩
  have sz := sizeLine_val
  have hR : (["Broken", "IsIn", "NoNumber", "NoPaper", "NoPast", "NoPlace", "NoRow", "NoStart", "NoText", "ShunError", "TooLow", "TooMuch"] : List String).contains c = true := by
    simp only [exNs, List.mem_cons, List.not_mem_nil, or_false] at hc
    rcases hc with (rfl | rfl | rfl | rfl | rfl | rfl | rfl | rfl | rfl | rfl | rfl) | rfl <;> decide
  unfold rd_law_kinds_a
  walk_at "tl"
  repeat (first | refine And.intro hR ?_ | refine And.intro (by omega) ?_)
  exact k
theorem i_made {s : Str} {PR : R → List T → Prop} {PX : String → List T → Prop} (k : PR (.val true (.lst (exNs.map T.exn))) [.str s]) : sp_law_made_a [fz (.str s)] PR PX := ⟨s, rfl, k⟩
theorem i_kinds {c : String} {PR : R → List T → Prop} {PX : String → List T → Prop} (hc : c ∈ exNs ∨ c = "ShunError") (k : PR (.val true (.lst ((kindsL c).map T.bl))) [.exn c]) : sp_law_kinds_a [fz (.exn c)] PR PX := ⟨c, rfl, hc, k⟩
theorem exns_R {c : String} (hc : c ∈ exNs) : (["Broken", "IsIn", "NoNumber", "NoPaper", "NoPast", "NoPlace", "NoRow", "NoStart", "NoText", "ShunError", "TooLow", "TooMuch"] : List String).contains c = true ∧ isSub c ["ShunError"] = true ∧ isSub c ["ValueError"] = true := by
  simp only [exNs, List.mem_cons, List.not_mem_nil, or_false] at hc
  rcases hc with rfl | rfl | rfl | rfl | rfl | rfl | rfl | rfl | rfl | rfl | rfl <;> decide
theorem kinds_at : ∀ i : Fin 11, kindsL (exNs.getD i.val "") = (rngI 0 ((11 : Nat) : Int).toNat).map fun x => decide (x = (i.val : Int)) := by decide
def sp_law_apart_a : TSp := fun as PR PX => ∃ s : Str, as = [fz (.str s)] ∧ PR (.val false (.bl true)) [.str s]
def rd_law_apart_a : TTS := ttSeq (ttSet 1 (ttCall sp_law_made_a nox (taF (tv 0) (taNil))))
  (ttSeq (ttFor (tiRng1 (tlcons (ttC1 lenT (tv 1)) (tlnil))) (tgN 2) (ttSeq (ttIfS (ttOr (ttNot (ttB (ttIsX ["Broken", "IsIn", "NoNumber", "NoPaper", "NoPast", "NoPlace", "NoRow", "NoStart", "NoText", "ShunError", "TooLow", "TooMuch"] ["ShunError"] (ttIx (tv 1) (tv 2))))) (ttNot (ttB (ttIsX ["Broken", "IsIn", "NoNumber", "NoPaper", "NoPast", "NoPlace", "NoRow", "NoStart", "NoText", "ShunError", "TooLow", "TooMuch"] ["ValueError"] (ttIx (tv 1) (tv 2)))))) (ttRet (tk (.bl false))) (ttNext))
  (ttIfS (ttB (ttBin (neT) (ttCall sp_law_kinds_a nox (taF (ttIx (tv 1) (tv 2)) (taNil))) (ttLc (tiRng1 (tlcons (ttC1 lenT (tv 1)) (tlnil))) (tgN 4) (ttYes) (ttBin (eqT) (tv 4) (tv 2)) [4]))) (ttRet (tk (.bl false))) (ttNext))))
  (ttSeq (ttSet 3 (ttNewX "ShunError" (tv 0)))
  (ttRet (ttAndV (ttIsX ["Broken", "IsIn", "NoNumber", "NoPaper", "NoPast", "NoPlace", "NoRow", "NoStart", "NoText", "ShunError", "TooLow", "TooMuch"] ["ValueError"] (tv 3)) (ttBin (inT true) (tk (.bl true)) (ttCall sp_law_kinds_a nox (taF (tv 3) (taNil))))))))
theorem ln_law_apart_a : ∀ as PR PX, sp_law_apart_a as PR PX → as.length = 1 := by
  rintro as PR PX ⟨s, rfl, _⟩
  rfl
theorem i_apart {s : Str} {PR : R → List T → Prop} {PX : String → List T → Prop} (k : PR (.val false (.bl true)) [.str s]) : sp_law_apart_a [fz (.str s)] PR PX := ⟨s, rfl, k⟩
theorem ok_law_apart_a : ∀ as PR PX, sp_law_apart_a as PR PX → rd_law_apart_a (endsT as PR) (startT 5 as) := by
  rintro as PR PX ⟨s, rfl, k⟩
  have sz := sizeLine_val
  unfold rd_law_apart_a
  walk_at "tl"
  refine i_made ?_
  walk_at "tl"
  rw [show (exNs.map T.exn).length = 11 from rfl]
  refine ⟨by decide, ?_⟩
  refine forT_p (α := Option T) (fun x2 => [some (fz (.str s)), some ⟨.own, false, .lst (exNs.map T.exn)⟩, ofT x2, none, none]) (fun _ _ => True) none rfl trivial (fun i t x2 ht _ => ?_) (fun x2 _ => ?_)
  · obtain ⟨hi, rfl⟩ := rngT_get ht
    have hi : i < 11 := hi
    have hc : exNs.getD i "" ∈ exNs := by rw [List.getD_eq_getElem?_getD, List.getElem?_eq_getElem hi]; exact List.getElem_mem _
    have hx : atI (exNs.map T.exn) (i : Int) = some (.exn (exNs.getD i "")) := atI_nat (by
      rw [List.getElem?_map, List.getD_eq_getElem?_getD, List.getElem?_eq_getElem hi]
      rfl)
    have hk := kinds_at ⟨i, hi⟩
    obtain ⟨h1, h2, h3⟩ := exns_R hc
    walk_at "tl"
    refine ⟨_, hx, ?_⟩
    walk_at "tl"
    refine ⟨h1, ?_⟩
    rw [h2]
    walk_at "tl"
    refine ⟨_, hx, ?_⟩
    walk_at "tl"
    refine ⟨h1, ?_⟩
    rw [h3]
    walk_at "tl"
    refine ⟨_, hx, i_kinds (.inl hc) ?_⟩
    walk_at "tl"
    rw [show (exNs.map T.exn).length = 11 from rfl]
    refine ⟨by decide, ?_⟩
    rw [rngT_eq]
    refine lcT_mb (fun x => decide (x = (i : Int))) (by walk_at "fz") (by decide) (fun x _ => ?_) ?_
    · walk_at "tl"
    · walk_at "tl"
      rw [hk, q_ne_self eo_bls]
      walk_at "tl"
      exact ⟨some _, rfl⟩
  · walk_at "tl"
    refine ⟨by decide, ?_⟩
    rw [show isSub "ShunError" ["ValueError"] = true by decide]
    walk_at "tl"
    refine i_kinds (.inr rfl) ?_
    walk_at "tl"
    refine ⟨by decide +kernel, ?_⟩
    rw [show (true != (List.map T.bl (kindsL "ShunError")).any fun t => t.eqv (T.bl true)) = true by decide +kernel]
    walk_at "tl"
    exact k
end Lib

namespace Lib
open PySem L2 TL
def sp_law_steps_a : TSp := fun as PR PX => ∃ a b c, as = [plA a b c] ∧ ∀ (zs : List Int) a b c, zs.length ≤ 5 → zs.Pairwise (· < ·) → (∀ z ∈ zs, 0 ≤ z ∧ z < 12) → PR (.val false (.tup (zs.map T.int))) [pl a b c]
def rd_law_steps_a : TTS := ttSeq (ttSet 1 (ttDict0))
  (ttSeq (ttFor (tiRng1 (tlcons (ttCall sp_law_next_a nox (taV 0 (taF (tk (.int 6)) (taNil)))) (tlnil))) (tgN 2) (ttSetIx 1 (tk (.bl true)) (ttCall sp_law_next_a nox (taV 0 (taF (tk (.int 12)) (taNil))))))
  (ttRet (ttC1 tupleT (ttC1 sortedDT (tv 1)))))
theorem ln_law_steps_a : ∀ as PR PX, sp_law_steps_a as PR PX → as.length = 1 := by
  rintro as PR PX ⟨a, b, c, rfl, _⟩
  rfl
theorem i_steps {a b c : Int} {PR : R → List T → Prop} {PX : String → List T → Prop} (k : ∀ (zs : List Int) a b c, zs.length ≤ 5 → zs.Pairwise (· < ·) → (∀ z ∈ zs, 0 ≤ z ∧ z < 12) → PR (.val false (.tup (zs.map T.int))) [pl a b c]) : sp_law_steps_a [plA a b c] PR PX := ⟨a, b, c, rfl, k⟩
theorem ok_law_steps_a : ∀ as PR PX, sp_law_steps_a as PR PX → rd_law_steps_a (endsT as PR) (startT 3 as) := by
  rintro as PR PX ⟨a, b, c, rfl, k⟩
  have sz := sizeLine_val
  unfold rd_law_steps_a
  walk_at "tl"
  refine i_next_a (by decide) (by decide) (fun e a b c e0 e1 => ?_)
  walk_at "tl"
  refine ⟨by omega, ?_⟩
  refine forT_p (α := Int × Int × Int × List Int × List T × Option T) (fun x => [some (plA x.1 x.2.1 x.2.2.1), some ⟨.own, false, .dct (x.2.2.2.1.map Sum.inl) x.2.2.2.2.1⟩, ofT x.2.2.2.2.2]) (fun i x => x.2.2.2.1.Nodup ∧ (∀ z ∈ x.2.2.2.1, 0 ≤ z ∧ z < 12) ∧ x.2.2.2.1.length ≤ i) (a, b, c, [], [], none) rfl ⟨List.nodup_nil, by simp, Nat.zero_le _⟩ (fun i t x ht hI => ?_) (fun x hI => ?_)
  · obtain ⟨a, b, c, zs, ts, o⟩ := x
    obtain ⟨hi, rfl⟩ := rngT_get ht
    obtain ⟨q1, q2, q3⟩ := hI
    simp only at q1 q2 q3
    walk_at "tl"
    refine i_next_a (by decide) (by decide) (fun v a b c v0 v1 => ?_)
    walk_at "tl"
    simp only [List.length_map]
    refine ⟨by omega, ?_⟩
    rw [dPutK_ints]
    refine ⟨(a, b, c, addI zs v, dPutV (zs.map Sum.inl) ts (Sum.inl v) (.bl true), some _), rfl, addI_nd q1, fun z hz => ?_, Nat.le_trans addI_len (by omega)⟩
    rcases addI_mem.mp hz with q | q
    · exact q2 z q
    · rw [q]
      omega
  · obtain ⟨a, b, c, zs, ts, o⟩ := x
    obtain ⟨q1, q2, q3⟩ := hI
    rw [rngT_len] at q3
    simp only at q1 q2 q3
    walk_at "tl"
    refine ⟨zs, rfl, ?_⟩
    walk_at "t"
    walk_at "z"
    exact k (srt zs) _ _ _ (by rw [(srt_perm zs).length_eq]; omega) (srt_lt q1) fun s hs => q2 s ((srt_perm zs).mem_iff.mp hs)
def sp_law_is_number_a : TSp := fun as PR PX => ∃ t, as = [fz t] ∧ okT t = true ∧ PR (.val false (.bl (isIntT t))) [t]
def rd_law_is_number_a : TTS := ttRet (ttAndV (ttIsi "int" (tv 0)) (ttNotV (ttIsi "bool" (tv 0))))
theorem ln_law_is_number_a : ∀ as PR PX, sp_law_is_number_a as PR PX → as.length = 1 := by
  rintro as PR PX ⟨t, rfl, _⟩
  rfl
theorem i_is_number {t : T} {PR : R → List T → Prop} {PX : String → List T → Prop} (h : okT t = true) (k : PR (.val false (.bl (isIntT t))) [t]) : sp_law_is_number_a [fz t] PR PX := ⟨t, rfl, h, k⟩
theorem ok_law_is_number_a : ∀ as PR PX, sp_law_is_number_a as PR PX → rd_law_is_number_a (endsT as PR) (startT 1 as) := by
  rintro as PR PX ⟨t, rfl, h, k⟩
  unfold rd_law_is_number_a
  cases t with
  | non | bl _ | int _ | str _ | tup _ | lst _ =>
    walk_at "tl"
    exact k
  | dct ks ts =>
    walk_at "tl"
    rw [isi_int_dct]
    walk_at "t"
    exact k
  | _ => cases h
structure Thg (t : T) : Prop where
  k4 : okT4 t
  k2 : okT2 t
  ok : okT t = true
  so : ∀ s, t = .str s → SOk s
theorem thg_lst {ts : List T} : Thg (.lst ts) := ⟨rfl, rfl, rfl, fun _ h => nomatch h⟩
theorem thg_tup {ts : List T} (hl : ts.length ≤ 1000) (h : ∀ t ∈ ts, Thg t) : Thg (.tup ts) := ⟨⟨hl, fun t ht => ⟨(h t ht).k2, (h t ht).so⟩⟩, ⟨fun t ht => (h t ht).ok, hl⟩, rfl, fun _ h => nomatch h⟩
theorem thg_int {i : Int} : Thg (.int i) := ⟨rfl, rfl, rfl, fun _ h => nomatch h⟩
theorem thg_bl {b : Bool} : Thg (.bl b) := ⟨rfl, rfl, rfl, fun _ h => nomatch h⟩
theorem thg_non : Thg .non := ⟨rfl, rfl, rfl, fun _ h => nomatch h⟩
theorem thg_dct {ks : List Key} {ts : List T} : Thg (.dct ks ts) := ⟨rfl, rfl, rfl, fun _ h => nomatch h⟩
theorem thg_str {s : Str} (h : SOk s) : Thg (.str s) := ⟨rfl, rfl, rfl, fun _ e => by cases e; exact h⟩
theorem thg_ints {zs : List Int} (h : zs.length ≤ 1000) : Thg (.tup (zs.map T.int)) := thg_tup (by rw [List.length_map]; exact h) fun t ht => by
  obtain ⟨z, _, rfl⟩ := List.mem_map.mp ht
  exact thg_int
def sp_law_due_a : TSp := fun as PR PX => ∃ t, as = [fz t] ∧ Thg t ∧ PR (.val false (.bl (ruleB t))) [t]
def rd_law_due_a : TTS := ttSeq (ttIfS (ttOr (ttNot (ttB (ttIsi "tuple" (tv 0)))) (ttOr (ttB (ttBin (inT true) (ttC1 lenT (tv 0)) (ttLst (tlcons (tk (.int 1)) (tlcons (tk (.int 2)) (tlnil)))))) (ttNot (ttB (ttIsi "str" (ttIx (tv 0) (tk (.int 0)))))))) (ttRet (tk (.bl false))) (ttNext))
  (ttSeq (ttIfS (ttB (ttBin (eqT) (ttC1 lenT (tv 0)) (tk (.int 1)))) (ttRet (ttBin (inT false) (ttIx (tv 0) (tk (.int 0))) (ttLst (tlcons (tk (.str "evens")) (tlcons (tk (.str "sums")) (tlcons (tk (.str "pairs")) (tlnil))))))) (ttNext))
  (ttSeq (ttSet 1 (ttIx (tv 0) (tk (.int 1))))
  (ttSeq (ttIfS (ttOr (ttB (ttBin (neT) (ttIx (tv 0) (tk (.int 0))) (tk (.str "gaps")))) (ttOr (ttNot (ttB (ttIsi "tuple" (tv 1)))) (ttB (ttBin (inT true) (ttC1 lenT (tv 1)) (ttLst (tlcons (tk (.int 1)) (tlcons (tk (.int 2)) (tlcons (tk (.int 3)) (tlcons (tk (.int 4)) (tlnil)))))))))) (ttRet (tk (.bl false))) (ttNext))
  (ttSeq (ttIfS (ttNot (ttB (ttC1 allT (ttLc (tiSeq (sl 1)) (tgN 2) (ttYes) (ttAndV (ttCall sp_law_is_number_a nox (taF (tv 2) (taNil))) (ttChain (ltT) (ltT) (tk (.int 0)) (tv 2) (tk (.int 11)))) [2])))) (ttRet (tk (.bl false))) (ttNext))
  (ttRet (ttBin (eqT) (ttC1 listT (tv 1)) (ttC1 sortSetT (tv 1))))))))
theorem ln_law_due_a : ∀ as PR PX, sp_law_due_a as PR PX → as.length = 1 := by
  rintro as PR PX ⟨t, rfl, _⟩
  rfl
def goT (t : T) : Bool := isIntT t && decide (0 < intV t ∧ intV t < 11)
theorem goInts : ∀ {ts : List T}, ts.all goT = true → ts = (ts.map intV).map T.int
  | [], _ => rfl
  | t :: ts, h => by
    rw [List.all_cons] at h
    obtain ⟨h1, h2⟩ := Bool.and_eq_true_iff.mp h
    rw [List.map_cons, List.map_cons, ← goInts h2]
    cases t with
    | int i => rfl
    | _ => cases h1
theorem q_in_wordsD {s : Str} (hs : SOk s) {k : Bool → T → Prop} : inT false (.str s) (.lst [.str "evens", .str "sums", .str "pairs"]) k = k false (.bl (wordR s)) := by
  show ((eqOk _ && eqOk _) = true ∧ k false (.bl (false != ([T.str "evens", T.str "sums", T.str "pairs"].any fun t => T.eqv t (.str s))))) = _
  rw [eo_str hs, show eqOk (.lst [.str "evens", .str "sums", .str "pairs"]) = true by decide +kernel]
  simp only [List.any_cons, List.any_nil, ev_str, Bool.or_false, Bool.false_bne, Bool.and_self, true_and]
  rw [show wordR s = (decide ("evens" = s) || (decide ("sums" = s) || decide ("pairs" = s))) by
    unfold wordR
    simp only [eq_comm]]
theorem fst_le : ∀ {xs : List Int} {x : Int}, xs.Pairwise (· < ·) → x ∈ xs → xs.getD 0 0 ≤ x
  | y :: ys, x, hp, hx => by
    show y ≤ x
    rcases List.mem_cons.mp hx with rfl | h
    · exact Int.le_refl _
    · exact Int.le_of_lt ((List.pairwise_cons.mp hp).1 x h)
theorem due_no {ts : List T} (h : (ts.all goT) = false) : stepsB (.tup ts) = false := by
  by_cases hs : stepsB (.tup ts) = true
  · exfalso
    unfold stepsB at hs
    obtain ⟨h1, h2⟩ := Bool.and_eq_true_iff.mp hs
    rw [risB_tup] at h1
    obtain ⟨h1, h3⟩ := Bool.and_eq_true_iff.mp h1
    have h2 : stepsI (ts.map intV) = true := h2
    unfold stepsI at h2
    obtain ⟨h4, h5⟩ := Bool.and_eq_true_iff.mp h2
    obtain ⟨h5, h6⟩ := Bool.and_eq_true_iff.mp h5
    obtain ⟨h6, h7⟩ := Bool.and_eq_true_iff.mp h6
    have h6 := of_decide_eq_true h6
    have h7 := of_decide_eq_true h7
    have h5 := of_decide_eq_true h5
    have hp : (ts.map intV).Pairwise (· < ·) := of_decide_eq_true h4
    have hne : ts.map intV ≠ [] := List.length_pos_iff.mp (by omega)
    have : ts.all goT = true := List.all_eq_true.mpr fun t ht => by
      have hi := List.all_eq_true.mp h1 t ht
      have hm : intV t ∈ ts.map intV := List.mem_map.mpr ⟨t, ht, rfl⟩
      have := la_ge hp hm
      have h0 : (ts.map intV).getD 0 0 ≤ intV t := fst_le hp hm
      exact Bool.and_eq_true_iff.mpr ⟨hi, decide_eq_true ⟨by omega, by omega⟩⟩
    rw [h] at this
    cases this
  · exact Bool.not_eq_true _ ▸ hs
theorem due_len {ts : List T} (h : ¬((ts.length : Int) ∈ ([1, 2, 3, 4] : List Int))) : stepsB (.tup ts) = false := by
  by_cases hs : stepsB (.tup ts) = true
  · exfalso
    unfold stepsB at hs
    obtain ⟨h1, h2⟩ := Bool.and_eq_true_iff.mp hs
    have h2 : stepsI (ts.map intV) = true := h2
    unfold stepsI at h2
    obtain ⟨h4, h5⟩ := Bool.and_eq_true_iff.mp h2
    obtain ⟨h5, h6⟩ := Bool.and_eq_true_iff.mp h5
    have h5 := of_decide_eq_true h5
    rw [List.length_map] at h5
    apply h
    simp only [List.mem_cons, List.not_mem_nil, or_false]
    omega
  · exact Bool.not_eq_true _ ▸ hs
theorem steps_pw {zs : List Int} (hl : 1 ≤ zs.length ∧ zs.length ≤ 4) (hb : ∀ z ∈ zs, 0 < z ∧ z < 11) : stepsI zs = rsB zs := by
  have hne : zs ≠ [] := List.length_pos_iff.mp (by omega)
  have h1 : 1 ≤ zs.getD 0 0 := by
    cases zs with
    | nil => exact absurd rfl hne
    | cons z zs => have := hb z List.mem_cons_self; show 1 ≤ z; omega
  have h2 := hb _ (la_mem hne)
  unfold stepsI
  rw [decide_eq_true hl, decide_eq_true h1, decide_eq_true (show la zs ≤ 10 by omega)]
  simp
theorem i_due {t : T} {PR : R → List T → Prop} {PX : String → List T → Prop} (h : Thg t) (k : PR (.val false (.bl (ruleB t))) [t]) : sp_law_due_a [fz t] PR PX := ⟨t, rfl, h, k⟩
theorem ok_law_due_a : ∀ as PR PX, sp_law_due_a as PR PX → rd_law_due_a (endsT as PR) (startT 3 as) := by
  rintro as PR PX ⟨t, rfl, h, k⟩
  have sz := sizeLine_val
  unfold rd_law_due_a
  cases t with
  | non | bl _ | int _ | str _ | lst _ =>
    walk_at "tl"
    exact k
  | dct ks ts =>
    walk_at "tl"
    rw [isi_tup_dct]
    walk_at "tl"
    exact k
  | tup ts =>
    walk_at "tl"
    refine ⟨by omega, ?_⟩
    rw [show [T.int 1, T.int 2] = ([1, 2] : List Int).map T.int from rfl, q_in_0]
    rcases ts with _ | ⟨x, _ | ⟨y, _ | ⟨z, us⟩⟩⟩
    · walk_at "tl"
      refine cnd_F (by decide) ?_
      walk_at "tl"
      exact k
    · walk_at "tl"
      refine cnd_T (by decide) ?_
      walk_at "tl"
      have hx := h.k2.1 x List.mem_cons_self
      have hs := (h.k4.2 x List.mem_cons_self).2
      cases x with
      | str s =>
        have hs := hs s rfl
        walk_at "tl"
        refine cnd_T (by decide) ?_
        walk_at "tl"
        refine ⟨by omega, ?_⟩
        rw [q_in_wordsD hs]
        walk_at "tl"
        exact k
      | dct ks ts =>
        rw [isi_str_dct]
        walk_at "tl"
        exact k
      | non | bl _ | int _ | tup _ | lst _ =>
        walk_at "tl"
        exact k
      | _ => cases (show false = true from hx)
    · walk_at "tl"
      refine cnd_T (by decide) ?_
      walk_at "tl"
      have hx := h.k2.1 x List.mem_cons_self
      have hs := (h.k4.2 x List.mem_cons_self).2
      have hy := h.k2.1 y (List.mem_cons_of_mem _ List.mem_cons_self)
      have hy2 := (h.k4.2 y (List.mem_cons_of_mem _ List.mem_cons_self)).1
      cases x with
      | str s =>
        have hs := hs s rfl
        rw [show ruleB (.tup [.str s, y]) = (decide (s = "gaps") && stepsB y) from rfl] at k
        walk_at "tl"
        refine cnd_F (by decide) ?_
        walk_at "tl"
        rw [q_ne_str hs (by decide +kernel)]
        walk_at "tl"
        refine cnd_2 (fun hg => ?_) (fun hg => ?_)
        · rw [decide_eq_true hg, Bool.true_and] at k
          walk_at "tl"
          cases y with
          | tup ys =>
            have hyl := hy2.2
            have hyo := hy2.1
            walk_at "tl"
            refine ⟨by omega, ?_⟩
            rw [show [T.int 1, T.int 2, T.int 3, T.int 4] = ([1, 2, 3, 4] : List Int).map T.int from rfl, q_in_0]
            walk_at "tl"
            refine cnd_2 (fun h4 => ?_) (fun h4 => ?_)
            · walk_at "tl"
              refine lcT_m (fun t => .bl (goT t)) (by walk_at "fz") (by omega) (fun t ht => ?_) ?_
              · walk_at "tl"
                refine i_is_number (hyo t ht) ?_
                walk_at "tl"
                cases t with
                | int i =>
                  rw [show isIntT (.int i) = true from rfl]
                  walk_at "tl"
                  refine cnd_2 (fun h0 => ?_) (fun h0 => ?_)
                  · walk_at "tl"
                    rw [show goT (.int i) = decide (0 < i ∧ i < 11) from rfl, show decide (0 < i ∧ i < 11) = decide (i < 11) by
                      rw [decide_eq_decide]; omega]
                  · walk_at "tl"
                    rw [show goT (.int i) = decide (0 < i ∧ i < 11) from rfl, decide_eq_false (fun h => h0 h.1)]
                | non | bl _ | str _ | tup _ | lst _ | dct _ _ =>
                  show cnd false _ _
                  walk_at "tl"
                  rfl
                | _ => cases (show false = true from hyo _ ht)
              · walk_at "tl"
                rw [show ys.map (fun t => T.bl (goT t)) = (ys.map goT).map T.bl by rw [List.map_map]; rfl, blsT_map]
                rw [show (ys.map goT).all id = ys.all goT by rw [List.all_map]; rfl]
                cases hg : ys.all goT
                rotate_left
                · have e := goInts hg
                  generalize hz : ys.map intV = zs at e
                  subst e
                  rw [List.length_map] at hyl h4
                  walk_at "tl"
                  have hb : ∀ z ∈ zs, 0 < z ∧ z < 11 := fun z hz => by
                    have := List.all_eq_true.mp hg (.int z) (List.mem_map.mpr ⟨z, hz, rfl⟩)
                    exact of_decide_eq_true (show decide (0 < z ∧ z < 11) = true from this)
                  have hl4 : 1 ≤ zs.length ∧ zs.length ≤ 4 := by
                    simp only [List.mem_cons, List.not_mem_nil, or_false] at h4
                    omega
                  refine ⟨by omega, fun ms m1 m2 => ?_⟩
                  rw [stepsB_ints, steps_pw hl4 hb] at k
                  rw [show decide (zs = ms) = rsB zs from decide_eq_decide.mpr ⟨fun e => by rw [e]; exact m1, fun h => Lib.sorted_ext h m1 fun x => (m2 x).symm⟩]
                  exact k
                · walk_at "tl"
                  rw [due_no hg] at k
                  exact k
            · walk_at "tl"
              rw [due_len fun h => h4 h] at k
              exact k
          | dct ks ts =>
            rw [isi_tup_dct]
            walk_at "tl"
            exact k
          | non | bl _ | int _ | str _ | lst _ =>
            walk_at "tl"
            exact k
          | _ => cases (show false = true from hy)
        · rw [decide_eq_false hg, Bool.false_and] at k
          walk_at "tl"
          exact k
      | dct ks ts =>
        rw [isi_str_dct]
        walk_at "tl"
        exact k
      | non | bl _ | int _ | tup _ | lst _ =>
        walk_at "tl"
        exact k
      | _ => cases (show false = true from hx)
    · walk_at "tl"
      refine cnd_F (by simp; omega) ?_
      walk_at "tl"
      rw [show ruleB (.tup (x :: y :: z :: us)) = false by cases x <;> rfl] at k
      exact k
  | _ => cases (show false = true from h.ok)
end Lib

namespace Lib
open PySem L2 TL
def sp_thing (n : Nat) : TSp := fun as PR PX => ∃ (a b c : Int) (d : Int), as = [plA a b c, fz (.int d)] ∧ 0 ≤ d ∧ d < n ∧ ∀ (o : Bool) (t : T) a b c, Thg t → (o = true → ∃ ts, t = .lst ts) → PR (.val o t) [pl a b c, .int d]
abbrev sp_law_thing_a : TSp := sp_thing 4
def rd_law_thing_a (SR : TSp) : TTS := ttSeq (ttSet 2 (ttCall sp_law_next_a nox (taV 0 (taF (tk (.int 12)) (taNil)))))
  (ttSeq (ttIfS (ttAnd (ttB (ttBin (eqT) (tv 2) (tk (.int 0)))) (ttB (ttBin (gtT) (tv 1) (tk (.int 0))))) (ttRet (ttLc (tiRng1 (tlcons (ttCall sp_law_next_a nox (taV 0 (taF (tk (.int 3)) (taNil)))) (tlnil))) (tgN 4) (ttYes) (ttCall SR nox (taV 0 (taF (ttBin subT (tv 1) (tk (.int 1))) (taNil)))) [4])) (ttNext))
  (ttSeq (ttIfS (ttAnd (ttB (ttBin (ltT) (tv 2) (tk (.int 4)))) (ttB (ttBin (gtT) (tv 1) (tk (.int 0))))) (ttRet (ttC1 tupleT (ttLc (tiRng1 (tlcons (ttCall sp_law_next_a nox (taV 0 (taF (tk (.int 4)) (taNil)))) (tlnil))) (tgN 4) (ttYes) (ttCall SR nox (taV 0 (taF (ttBin subT (tv 1) (tk (.int 1))) (taNil)))) [4]))) (ttNext))
  (ttSeq (ttSet 3 (ttLst (tlcons (tk (.str "evens")) (tlcons (tk (.str "sums")) (tlcons (tk (.str "pairs")) (tlcons (tk (.str "gaps")) (tlcons (tk (.str "gap")) (tlcons (tk (.str "")) (tlcons (tk .non) (tlcons (tk (.bl true)) (tlcons (tk (.bl false)) (tlcons (ttCall sp_law_next_a nox (taV 0 (taF (tk (.int 12)) (taNil)))) (tlcons (ttU negT (tk (.int 1))) (tlcons (ttDict0) (tlnil)))))))))))))))
  (ttSeq (ttSet 3 (ttBin addT (tv 3) (ttLst (tlcons (ttCall sp_law_steps_a nox (taV 0 (taNil))) (tlcons (ttC1 listT (ttCall sp_law_steps_a nox (taV 0 (taNil)))) (tlcons (ttBin powT (tk (.int 10)) (tk (.int 40))) (tlcons (tk (.str "Evens")) (tlcons (ttDg "gaps" 1) (tlcons (ttTup (tlcons (tk (.int 1)) (tlcons (tk (.int 2)) (tlnil)))) (tlnil))))))))))
  (ttRet (ttIx (tv 3) (ttCall sp_law_next_a nox (taV 0 (taF (ttC1 lenT (tv 3)) (taNil))))))))))
theorem ln_law_thing_a : ∀ n as PR PX, sp_thing n as PR PX → as.length = 2 := by
  rintro n as PR PX ⟨a, b, c, d, rfl, _⟩
  rfl
theorem no_thing {as : List Sl} {PR : R → List T → Prop} {PX : String → List T → Prop} (h : sp_thing 0 as PR PX) : False := by
  obtain ⟨a, b, c, d, _, h0, h1, _⟩ := h
  omega
theorem i_thing {n : Nat} {a b c d : Int} {PR : R → List T → Prop} {PX : String → List T → Prop} (h0 : 0 ≤ d) (h1 : d < n) (k : ∀ (o : Bool) (t : T) a b c, Thg t → (o = true → ∃ ts, t = .lst ts) → PR (.val o t) [pl a b c, .int d]) : sp_thing n [plA a b c, fz (.int d)] PR PX := ⟨a, b, c, d, rfl, h0, h1, k⟩
theorem pickA {ts : List T} {i : Int} {p : T → Prop} (h0 : 0 ≤ i) (h1 : i < ts.length) (h : ∀ t ∈ ts, p t) : ∃ t, atI ts i = some t ∧ p t := by
  have hi : i.toNat < ts.length := by omega
  have e : (i.toNat : Int) = i := by omega
  have q : atI ts (i.toNat : Int) = some ts[i.toNat] := atI_nat (List.getElem?_eq_getElem hi)
  rw [e] at q
  exact ⟨ts[i.toNat], q, h _ (List.getElem_mem hi)⟩
theorem all_cons {p : T → Prop} {t : T} {ts : List T} (h : p t) (k : ∀ t ∈ ts, p t) : ∀ u ∈ t :: ts, p u := fun u hu => (List.mem_cons.mp hu).elim (fun e => by rw [e]; exact h) (k u)
theorem all_nil {p : T → Prop} : ∀ u ∈ ([] : List T), p u := fun _ h => nomatch h
theorem ok_law_thing_a : ∀ n as PR PX, sp_thing (n + 1) as PR PX → rd_law_thing_a (sp_thing n) (endsT as PR) (startT 5 as) := by
  rintro n as PR PX ⟨a, b, c, d, rfl, h0, h1, k⟩
  have sz := sizeLine_val
  unfold rd_law_thing_a
  walk_at "tl"
  refine i_next_a (by decide) (by decide) (fun way a b c w0 w1 => ?_)
  walk_at "tl"
  generalize hD : seqD _ _ = D'
  have rest : ∀ a b c, D'.nx [some ⟨.arg 0, false, pl a b c⟩, some (fz (.int d)), some (fz (.int way)), none, none] := by
    intro a b c
    subst hD
    walk_at "tl"
    generalize hD : seqD _ _ = D'
    have rest : ∀ a b c, D'.nx [some ⟨.arg 0, false, pl a b c⟩, some (fz (.int d)), some (fz (.int way)), none, none] := by
      intro a b c
      subst hD
      walk_at "tl"
      refine i_next_a (by decide) (by decide) (fun v a b c v0 v1 => ?_)
      walk_at "tl"
      refine ⟨by omega, i_steps (fun zs a b c z1 z2 z3 => ?_)⟩
      walk_at "tl"
      refine i_steps (fun ys a b c y1 y2 y3 => ?_)
      walk_at "tl"
      refine ⟨by decide, by omega, by omega, by omega, i_next_a (by decide) (by decide) (fun j a b c j0 j1 => ?_)⟩
      walk_at "tl"
      obtain ⟨t, ht, hT⟩ := pickA (ts := [T.str "evens", T.str "sums", T.str "pairs", T.str "gaps", T.str "gap", T.str "", T.non, T.bl true, T.bl false, T.int v, T.int (-1), T.dct [] [], T.tup (List.map T.int zs), T.lst (List.map T.int ys), T.int 10000000000000000000000000000000000000000, T.str "Evens", T.dct [Sum.inr (Str.ofString "gaps")] [T.int 1], T.tup [T.int 1, T.int 2]]) (p := Thg) j0 j1
        (all_cons (thg_str (by decide +kernel)) (all_cons (thg_str (by decide +kernel)) (all_cons (thg_str (by decide +kernel)) (all_cons (thg_str (by decide +kernel)) (all_cons (thg_str (by decide +kernel)) (all_cons (thg_str (by decide +kernel)) (all_cons thg_non (all_cons thg_bl (all_cons thg_bl (all_cons thg_int (all_cons thg_int (all_cons thg_dct (all_cons (thg_ints (by omega)) (all_cons thg_lst (all_cons thg_int (all_cons (thg_str (by decide +kernel)) (all_cons thg_dct (all_cons (thg_ints (zs := [1, 2]) (by decide)) all_nil))))))))))))))))))
      exact ⟨t, ht, k false t a b c hT fun h => nomatch h⟩
    refine cnd_2 (fun h2 => ?_) (fun h2 => ?_)
    · walk_at "tl"
      refine cnd_2 (fun h3 => ?_) (fun h3 => ?_)
      · walk_at "tl"
        refine i_next_a (by decide) (by decide) (fun m a b c m0 m1 => ?_)
        walk_at "tl"
        refine ⟨by omega, ?_⟩
        refine lcT_f (α := Int × Int × Int) (fun (a, b, c) => [some ⟨.arg 0, false, pl a b c⟩, some (fz (.int d)), some (fz (.int way)), none, none]) (fun i acc _ => acc.length = i ∧ ∀ t ∈ acc, Thg t) (a, b, c) (by walk_at "fz") rfl ⟨rfl, by simp⟩ (fun i t acc x ht hI => ?_) (fun acc x hI => ?_)
        · obtain ⟨a, b, c⟩ := x
          obtain ⟨hi, rfl⟩ := rngT_get ht
          obtain ⟨q1, q2⟩ := hI
          walk_at "tl"
          refine i_thing (by omega) (by omega) (fun o t a b c hT ho => ?_)
          walk_at "tl"
          exact ⟨by omega, (a, b, c), rfl, by rw [List.length_append, q1]; rfl, fun u hu => (List.mem_append.mp hu).elim (q2 u) fun z => by rw [List.mem_singleton.mp z]; exact hT⟩
        · obtain ⟨a, b, c⟩ := x
          obtain ⟨q1, q2⟩ := hI
          rw [rngT_len] at q1
          walk_at "tl"
          subst hD
          walk_at "t"
          exact k false _ a b c (thg_tup (by omega) q2) fun h => nomatch h
      · walk_at "tl"
        exact rest a b c
    · walk_at "tl"
      exact rest a b c
  refine cnd_2 (fun h2 => ?_) (fun h2 => ?_)
  · walk_at "tl"
    refine cnd_2 (fun h3 => ?_) (fun h3 => ?_)
    · walk_at "tl"
      refine i_next_a (by decide) (by decide) (fun m a b c m0 m1 => ?_)
      walk_at "tl"
      refine ⟨by omega, ?_⟩
      refine lcT_f (α := Int × Int × Int) (fun (a, b, c) => [some ⟨.arg 0, false, pl a b c⟩, some (fz (.int d)), some (fz (.int way)), none, none]) (fun i acc _ => acc.length = i ∧ ∀ t ∈ acc, Thg t) (a, b, c) (by walk_at "fz") rfl ⟨rfl, by simp⟩ (fun i t acc x ht hI => ?_) (fun acc x hI => ?_)
      · obtain ⟨a, b, c⟩ := x
        obtain ⟨hi, rfl⟩ := rngT_get ht
        obtain ⟨q1, q2⟩ := hI
        walk_at "tl"
        refine i_thing (by omega) (by omega) (fun o t a b c hT ho => ?_)
        walk_at "tl"
        exact ⟨by omega, (a, b, c), rfl, by rw [List.length_append, q1]; rfl, fun u hu => (List.mem_append.mp hu).elim (q2 u) fun z => by rw [List.mem_singleton.mp z]; exact hT⟩
      · obtain ⟨a, b, c⟩ := x
        obtain ⟨q1, q2⟩ := hI
        rw [rngT_len] at q1
        walk_at "tl"
        subst hD
        walk_at "tl"
        exact k true _ a b c thg_lst fun _ => ⟨_, rfl⟩
    · walk_at "tl"
      exact rest a b c
  · walk_at "tl"
    exact rest a b c
end Lib

namespace Lib
open PySem L2 TL
def sp_law_bent_a : TSp := fun as PR PX => ∃ (a b c : Int) (r : Rl), as = [plA a b c, fz (ruleT r)] ∧ RlOk r ∧ ∀ (o : Bool) (t : T) a b c, Thg t → (o = true → ∃ ts, t = .lst ts) → PR (.val o t) [pl a b c, ruleT r]
def rd_law_bent_a : TTS := ttSeq (ttSet 2 (ttC1 listT (tv 1)))
  (ttSeq (ttSet 3 (ttCall sp_law_next_a nox (taV 0 (taF (tk (.int 6)) (taNil)))))
  (ttSeq (ttIfS (ttB (ttBin (eqT) (tv 3) (tk (.int 0)))) (ttRet (ttC1 tupleT (ttBin addT (tv 2) (ttLst (tlcons (ttCall sp_law_thing_a nox (taV 0 (taF (tk (.int 1)) (taNil)))) (tlnil)))))) (ttNext))
  (ttSeq (ttIfS (ttB (ttBin (eqT) (tv 3) (tk (.int 1)))) (ttRet (tv 2)) (ttNext))
  (ttSeq (ttIfS (ttOr (ttB (ttBin (eqT) (tv 3) (tk (.int 2)))) (ttB (ttBin (eqT) (ttC1 lenT (tv 2)) (tk (.int 1))))) (ttSeq (ttSetIx 2 (ttIx (ttLst (tlcons (tk (.str "evens")) (tlcons (tk (.str "sums")) (tlcons (tk (.str "pairs")) (tlcons (tk (.str "gaps")) (tlcons (tk (.str "even")) (tlcons (ttBin addT (ttIx (tv 1) (tk (.int 0))) (tk (.str "s"))) (tlcons (ttSl (ttIx (tv 1) (tk (.int 0))) (toN) (toS (ttU negT (tk (.int 1))))) (tlcons (tk (.str "")) (tlcons (tk .non) (tlnil))))))))))) (ttCall sp_law_next_a nox (taV 0 (taF (tk (.int 9)) (taNil))))) (tk (.int 0)))
  (ttRet (ttC1 tupleT (tv 2)))) (ttNext))
  (ttSeq (ttSet 4 (ttC1 listT (ttIx (tv 2) (tk (.int 1)))))
  (ttSeq (ttSet 5 (ttCall sp_law_next_a nox (taV 0 (taF (ttC1 lenT (tv 4)) (taNil)))))
  (ttSeq (ttIfS (ttB (ttBin (eqT) (tv 3) (tk (.int 3)))) (ttSetIx 4 (ttIx (ttLst (tlcons (tk (.int 0)) (tlcons (tk (.int 11)) (tlcons (ttU negT (tk (.int 1))) (tlcons (tk (.bl true)) (tlcons (tk .non) (tlcons (tk (.str "1")) (tlcons (ttTup (tlcons (tk (.int 1)) (tlnil))) (tlcons (ttBin addT (ttIx (tv 4) (tv 5)) (tk (.int 1))) (tlcons (ttBin subT (ttIx (tv 4) (tv 5)) (tk (.int 1))) (tlcons (tk (.int 10)) (tlnil)))))))))))) (ttCall sp_law_next_a nox (taV 0 (taF (tk (.int 10)) (taNil))))) (tv 5)) (ttIfS (ttB (ttBin (eqT) (tv 3) (tk (.int 4)))) (ttDrop (ttMut true 4 (tlcons (ttCall sp_law_next_a nox (taV 0 (taF (ttBin addT (ttC1 lenT (tv 4)) (tk (.int 1))) (taNil)))) (tlcons (ttBin addT (tk (.int 1)) (ttCall sp_law_next_a nox (taV 0 (taF (tk (.int 10)) (taNil))))) (tlnil))) insG)) (ttDrop (ttMut true 4 (tlcons (tv 5) (tlnil)) popAtG))))
  (ttRet (ttTup (tlcons (tk (.str "gaps")) (tlcons (ttIx (ttLst (tlcons (ttC1 tupleT (tv 4)) (tlcons (tv 4) (tlnil)))) (ttC1 intC (ttBin (eqT) (ttCall sp_law_next_a nox (taV 0 (taF (tk (.int 8)) (taNil)))) (tk (.int 0))))) (tlnil))))))))))))
theorem ln_law_bent_a : ∀ as PR PX, sp_law_bent_a as PR PX → as.length = 2 := by
  rintro as PR PX ⟨a, b, c, r, rfl, _⟩
  rfl
theorem i_bent {a b c : Int} {r : Rl} {PR : R → List T → Prop} {PX : String → List T → Prop} (hr : RlOk r) (k : ∀ (o : Bool) (t : T) a b c, Thg t → (o = true → ∃ ts, t = .lst ts) → PR (.val o t) [pl a b c, ruleT r]) : sp_law_bent_a [plA a b c, fz (ruleT r)] PR PX := ⟨a, b, c, r, rfl, hr, k⟩
theorem nine {u v : Str} (hu : SOk u) (hv : SOk v) : ∀ t ∈ [T.str "evens", T.str "sums", T.str "pairs", T.str "gaps", T.str "even", T.str u, T.str v, T.str "", T.non], Thg t :=
  all_cons (thg_str (by decide +kernel)) (all_cons (thg_str (by decide +kernel)) (all_cons (thg_str (by decide +kernel)) (all_cons (thg_str (by decide +kernel)) (all_cons (thg_str (by decide +kernel)) (all_cons (thg_str hu) (all_cons (thg_str hv) (all_cons (thg_str (by decide +kernel)) (all_cons thg_non all_nil))))))))
theorem nine_pick {u v : Str} {j : Int} (j0 : 0 ≤ j) (j1 : j < 9) (hu : SOk u) (hv : SOk v) : ∃ t, atI [T.str "evens", T.str "sums", T.str "pairs", T.str "gaps", T.str "even", T.str u, T.str v, T.str "", T.non] j = some t ∧ Thg t := pickA j0 (by simpa using j1) (nine hu hv)
theorem ok_law_bent_a : ∀ as PR PX, sp_law_bent_a as PR PX → rd_law_bent_a (endsT as PR) (startT 6 as) := by
  rintro as PR PX ⟨a, b, c, r, rfl, hr, k⟩
  have sz := sizeLine_val
  unfold rd_law_bent_a
  cases r with
  | gaps ss =>
    have hss := (show StOk ss from hr)
    rw [show ruleT (.gaps ss) = .tup [.str "gaps", .tup (ss.map T.int)] from rfl] at k ⊢
    walk_at "tl"
    refine i_next_a (by decide) (by decide) (fun way a b c w0 w1 => ?_)
    walk_at "tl"
    refine cnd_2 (fun h => ?_) (fun h => ?_)
    · walk_at "tl"
      refine i_thing (by omega) (by decide) (fun o t a b c hT ho => ?_)
      walk_at "tl"
      exact ⟨by omega, by omega, k false _ a b c (thg_tup (by simp) (all_cons (thg_str (by decide +kernel)) (all_cons (thg_ints (by have := hss.l1; omega)) (all_cons hT all_nil)))) fun h => nomatch h⟩
    walk_at "tl"
    refine cnd_2 (fun h => ?_) (fun h => ?_)
    · walk_at "tl"
      exact k true _ a b c thg_lst fun _ => ⟨_, rfl⟩
    walk_at "tl"
    refine cnd_2 (fun h => ?_) (fun h => ?_)
    · walk_at "tl"
      have e1 : (Str.ofString "gaps").length = 4 := by decide +kernel
      have e2 : (Str.ofString "s").length = 1 := by decide +kernel
      refine ⟨by omega, by omega, by omega, i_next_a (by decide) (by decide) (fun j a b c j0 j1 => ?_)⟩
      walk_at "tl"
      obtain ⟨t, ht, hT⟩ := pickA (ts := [T.str "evens", T.str "sums", T.str "pairs", T.str "gaps", T.str "even", T.str (Str.ofString "gaps" ++ Str.ofString "s"), T.str (cutS (Str.ofString "gaps") none (some (-1))), T.str "", T.non]) (p := Thg) j0 j1 (nine (by decide +kernel) (by decide +kernel))
      exact ⟨t, ht, k false _ a b c (thg_tup (by simp) (all_cons hT (all_cons (thg_ints (by have := hss.l1; omega)) all_nil))) fun h => nomatch h⟩
    walk_at "tl"
    refine cnd_F (by decide) ?_
    walk_at "tl"
    rw [List.length_map]
    refine i_next_a (by have := hss.l0; omega) (by have := hss.l1; omega) (fun n a b c n0 n1 => ?_)
    walk_at "tl"
    have hn : n.toNat < ss.length := by omega
    generalize hD : seqD _ _ = D'
    have rest : ∀ (us : List T) a b c, us.length ≤ 5 → (∀ t ∈ us, Thg t) → D'.nx [some ⟨.arg 0, false, pl a b c⟩, some (fz (.tup [.str "gaps", .tup (ss.map T.int)])), some ⟨.own, false, .lst [.str "gaps", .tup (ss.map T.int)]⟩, some (fz (.int way)), some ⟨.own, false, .lst us⟩, some (fz (.int n))] := by
      intro us a b c hl hu
      subst hD
      walk_at "tl"
      refine ⟨by omega, i_next_a (by decide) (by decide) (fun v a b c v0 v1 => ?_)⟩
      walk_at "tl"
      by_cases hv : v = 0
      · rw [decide_eq_true hv]
        refine ⟨_, rfl, ?_⟩
        exact ⟨by omega, k false _ a b c (thg_tup (by simp) (all_cons (thg_str (by decide +kernel)) (all_cons thg_lst all_nil))) fun h => nomatch h⟩
      · rw [decide_eq_false hv]
        refine ⟨_, rfl, ?_⟩
        exact ⟨by omega, k false _ a b c (thg_tup (by simp) (all_cons (thg_str (by decide +kernel)) (all_cons (thg_tup (by omega) hu) all_nil))) fun h => nomatch h⟩
    have hS : ∀ t ∈ ss.map T.int, Thg t := fun t ht => by
      obtain ⟨z, _, rfl⟩ := List.mem_map.mp ht
      exact thg_int
    have hlS : (ss.map T.int).length ≤ 4 := by rw [List.length_map]; exact hss.l1
    obtain ⟨x, hx, hxb⟩ := pickI (is := ss) (i := n) (p := fun x => 1 ≤ x ∧ x ≤ 10) n0 n1 hss.bd
    refine cnd_2 (fun h3 => ?_) (fun h3 => ?_)
    · walk_at "tl"
      refine ⟨by omega, _, hx, ?_⟩
      walk_at "tl"
      refine ⟨_, hx, ?_⟩
      walk_at "tl"
      refine ⟨by omega, i_next_a (by decide) (by decide) (fun j a b c j0 j1 => ?_)⟩
      walk_at "tl"
      obtain ⟨t, ht, hT⟩ := pickA (ts := [T.int 0, T.int 11, T.int (-1), T.bl true, T.non, T.str (Str.ofString "1"), T.tup [T.int 1], T.int (x + 1), T.int (x - 1), T.int 10]) (p := Thg) j0 (by simpa using j1) (all_cons thg_int (all_cons thg_int (all_cons thg_int (all_cons thg_bl (all_cons thg_non (all_cons (thg_str (by decide +kernel)) (all_cons (thg_ints (zs := [1]) (by decide)) (all_cons thg_int (all_cons thg_int (all_cons thg_int all_nil))))))))))
      have hix : ixN (ss.map T.int).length ((n.toNat : Nat) : Int) = some n.toNat := ixN_lt (by rw [List.length_map]; exact hn)
      rw [show ((n.toNat : Nat) : Int) = n by omega] at hix
      refine ⟨t, ht, n.toNat, hix, ?_⟩
      refine rest _ a b c (by rw [List.length_set]; omega) fun u hu => ?_
      rcases List.mem_or_eq_of_mem_set hu with h | h
      · exact hS u h
      · rw [h]; exact hT
    · walk_at "tl"
      refine cnd_2 (fun h3 => ?_) (fun h3 => ?_)
      · walk_at "tl"
        rw [List.length_map]
        refine i_next_a (by omega) (by have := hss.l1; omega) (fun p a b c p0 p1 => ?_)
        walk_at "tl"
        refine i_next_a (by decide) (by decide) (fun w a b c w0 w1 => ?_)
        walk_at "tl"
        refine ⟨by omega, by omega, by have := hss.l1; omega, ?_⟩
        refine rest _ a b c (by rw [List.length_append, List.length_append, List.length_take, List.length_drop, List.length_singleton]; omega) fun t ht => ?_
        rcases List.mem_append.mp ht with ht | ht
        · rcases List.mem_append.mp ht with ht | ht
          · exact hS t (List.mem_of_mem_take ht)
          · rw [List.mem_singleton.mp ht]; exact thg_int
        · exact hS t (List.mem_of_mem_drop ht)
      · walk_at "tl"
        refine ⟨by omega, by have := hss.l1; omega, .int (ss[n.toNat]'hn), by rw [List.getElem?_map, List.getElem?_eq_getElem hn]; rfl, ?_⟩
        exact rest _ a b c (by have := List.length_eraseIdx_le (ss.map T.int) n.toNat; omega) fun t ht => hS t (List.mem_of_mem_eraseIdx ht)
  | evens =>
    simp only [ruleT] at k ⊢
    walk_at "tl"
    refine i_next_a (by decide) (by decide) (fun way a b c w0 w1 => ?_)
    walk_at "tl"
    refine cnd_2 (fun h => ?_) (fun h => ?_)
    · walk_at "tl"
      refine i_thing (by omega) (by decide) (fun o t a b c hT ho => ?_)
      walk_at "tl"
      exact ⟨by omega, by omega, k false _ a b c (thg_tup (by simp) (all_cons (thg_str (by decide +kernel)) (all_cons hT all_nil))) fun h => nomatch h⟩
    walk_at "tl"
    refine cnd_2 (fun h => ?_) (fun h => ?_)
    · walk_at "tl"
      exact k true _ a b c thg_lst fun _ => ⟨_, rfl⟩
    walk_at "tl"
    refine cnd_2 (fun h => ?_) (fun h => ?_)
    · walk_at "tl"
      have e1 : (Str.ofString "evens").length ≤ 5 := by decide +kernel
      have e2 : (Str.ofString "s").length = 1 := by decide +kernel
      refine ⟨by omega, by omega, by omega, i_next_a (by decide) (by decide) (fun j a b c j0 j1 => ?_)⟩
      walk_at "tl"
      obtain ⟨t, ht, hT⟩ := nine_pick j0 j1 (u := Str.ofString "evens" ++ Str.ofString "s") (v := cutS (Str.ofString "evens") none (some (-1))) (by decide +kernel) (by decide +kernel)
      exact ⟨t, ht, k false _ a b c (thg_tup (by simp) (all_cons hT all_nil)) fun h => nomatch h⟩
    · walk_at "tl"
      refine cnd_T (by decide) ?_
      walk_at "tl"
      have e1 : (Str.ofString "evens").length ≤ 5 := by decide +kernel
      have e2 : (Str.ofString "s").length = 1 := by decide +kernel
      refine ⟨by omega, by omega, by omega, i_next_a (by decide) (by decide) (fun j a b c j0 j1 => ?_)⟩
      walk_at "tl"
      obtain ⟨t, ht, hT⟩ := nine_pick j0 j1 (u := Str.ofString "evens" ++ Str.ofString "s") (v := cutS (Str.ofString "evens") none (some (-1))) (by decide +kernel) (by decide +kernel)
      exact ⟨t, ht, k false _ a b c (thg_tup (by simp) (all_cons hT all_nil)) fun h => nomatch h⟩
  | sums =>
    simp only [ruleT] at k ⊢
    walk_at "tl"
    refine i_next_a (by decide) (by decide) (fun way a b c w0 w1 => ?_)
    walk_at "tl"
    refine cnd_2 (fun h => ?_) (fun h => ?_)
    · walk_at "tl"
      refine i_thing (by omega) (by decide) (fun o t a b c hT ho => ?_)
      walk_at "tl"
      exact ⟨by omega, by omega, k false _ a b c (thg_tup (by simp) (all_cons (thg_str (by decide +kernel)) (all_cons hT all_nil))) fun h => nomatch h⟩
    walk_at "tl"
    refine cnd_2 (fun h => ?_) (fun h => ?_)
    · walk_at "tl"
      exact k true _ a b c thg_lst fun _ => ⟨_, rfl⟩
    walk_at "tl"
    refine cnd_2 (fun h => ?_) (fun h => ?_)
    · walk_at "tl"
      have e1 : (Str.ofString "sums").length ≤ 5 := by decide +kernel
      have e2 : (Str.ofString "s").length = 1 := by decide +kernel
      refine ⟨by omega, by omega, by omega, i_next_a (by decide) (by decide) (fun j a b c j0 j1 => ?_)⟩
      walk_at "tl"
      obtain ⟨t, ht, hT⟩ := nine_pick j0 j1 (u := Str.ofString "sums" ++ Str.ofString "s") (v := cutS (Str.ofString "sums") none (some (-1))) (by decide +kernel) (by decide +kernel)
      exact ⟨t, ht, k false _ a b c (thg_tup (by simp) (all_cons hT all_nil)) fun h => nomatch h⟩
    · walk_at "tl"
      refine cnd_T (by decide) ?_
      walk_at "tl"
      have e1 : (Str.ofString "sums").length ≤ 5 := by decide +kernel
      have e2 : (Str.ofString "s").length = 1 := by decide +kernel
      refine ⟨by omega, by omega, by omega, i_next_a (by decide) (by decide) (fun j a b c j0 j1 => ?_)⟩
      walk_at "tl"
      obtain ⟨t, ht, hT⟩ := nine_pick j0 j1 (u := Str.ofString "sums" ++ Str.ofString "s") (v := cutS (Str.ofString "sums") none (some (-1))) (by decide +kernel) (by decide +kernel)
      exact ⟨t, ht, k false _ a b c (thg_tup (by simp) (all_cons hT all_nil)) fun h => nomatch h⟩
  | pairs =>
    simp only [ruleT] at k ⊢
    walk_at "tl"
    refine i_next_a (by decide) (by decide) (fun way a b c w0 w1 => ?_)
    walk_at "tl"
    refine cnd_2 (fun h => ?_) (fun h => ?_)
    · walk_at "tl"
      refine i_thing (by omega) (by decide) (fun o t a b c hT ho => ?_)
      walk_at "tl"
      exact ⟨by omega, by omega, k false _ a b c (thg_tup (by simp) (all_cons (thg_str (by decide +kernel)) (all_cons hT all_nil))) fun h => nomatch h⟩
    walk_at "tl"
    refine cnd_2 (fun h => ?_) (fun h => ?_)
    · walk_at "tl"
      exact k true _ a b c thg_lst fun _ => ⟨_, rfl⟩
    walk_at "tl"
    refine cnd_2 (fun h => ?_) (fun h => ?_)
    · walk_at "tl"
      have e1 : (Str.ofString "pairs").length ≤ 5 := by decide +kernel
      have e2 : (Str.ofString "s").length = 1 := by decide +kernel
      refine ⟨by omega, by omega, by omega, i_next_a (by decide) (by decide) (fun j a b c j0 j1 => ?_)⟩
      walk_at "tl"
      obtain ⟨t, ht, hT⟩ := nine_pick j0 j1 (u := Str.ofString "pairs" ++ Str.ofString "s") (v := cutS (Str.ofString "pairs") none (some (-1))) (by decide +kernel) (by decide +kernel)
      exact ⟨t, ht, k false _ a b c (thg_tup (by simp) (all_cons hT all_nil)) fun h => nomatch h⟩
    · walk_at "tl"
      refine cnd_T (by decide) ?_
      walk_at "tl"
      have e1 : (Str.ofString "pairs").length ≤ 5 := by decide +kernel
      have e2 : (Str.ofString "s").length = 1 := by decide +kernel
      refine ⟨by omega, by omega, by omega, i_next_a (by decide) (by decide) (fun j a b c j0 j1 => ?_)⟩
      walk_at "tl"
      obtain ⟨t, ht, hT⟩ := nine_pick j0 j1 (u := Str.ofString "pairs" ++ Str.ofString "s") (v := cutS (Str.ofString "pairs") none (some (-1))) (by decide +kernel) (by decide +kernel)
      exact ⟨t, ht, k false _ a b c (thg_tup (by simp) (all_cons hT all_nil)) fun h => nomatch h⟩
end Lib

namespace Lib
open PySem L2 TL
structure Num60 (xs : List Int) : Prop where
  nn : ∀ x ∈ xs, 0 ≤ x
  lt : ∀ x ∈ xs, x < 10 ^ 60
end Lib

namespace Lib
open PySem L2 TL
end Lib

namespace Lib
open PySem L2 TL
structure WdI (s : Str) (i : Nat) (A : List Str) (a : Str) : Prop where
  eq : (wordsS s).map tl = A.map tl ++ spl [32] 0 (tl a) ((tl s).drop i)
  ok : SOk a
  ln : A.length + a.length ≤ 2 * i
theorem ixN_last {n : Nat} : ixN (n + 1) (-1) = some n := by
  unfold ixN
  rw [if_neg (by omega), if_pos (by omega)]
  congr 1
  omega
theorem atI_last {xs : List T} {x : T} : atI (xs ++ [x]) (-1) = some x := by
  unfold atI
  rw [List.length_append, List.length_singleton, ixN_last]
  show (xs ++ [x])[xs.length]? = some x
  rw [List.getElem?_append_right (Nat.le_refl _), Nat.sub_self]
  rfl
end Lib

namespace Lib
open PySem L2 TL
def sp_law_k01 : TSp := fun as PR PX => ∃ ns : List Int, as = [fz (.scr ns)] ∧ ns.length ≤ 63 ∧ ∀ ts, PR (.val false (.bl true)) ts
def rd_law_k01 : TTS := ttSeq (ttFor (tiSeq (sf (ttCall sp_law_cells_a nox (taF (tv 0) (taF (tk (.int 4)) (taF (tk (.int 40)) (taNil))))))) (tgN 1) (ttSeq (ttIfS (ttNot (ttB (ttCall sp_law_apart_a nox (taF (ttIx (ttLst (tlcons (tk (.str "")) (tlcons (tk (.str "a")) (tlcons (tk (.str "none")) (tlcons (ttC1 strC (ttBin modT (tv 1) (ttBin powT (tk (.int 10)) (tk (.int 60))))) (tlnil)))))) (ttBin modT (tv 1) (tk (.int 4)))) (taNil))))) (ttRet (tk (.bl false))) (ttNext))
  (ttSeq (ttSet 2 (ttCall sp_law_dig_a nox (taF (tv 1) (taNil))))
  (ttSeq (ttSet 3 (ttCall sp_law_rule_a nox (taV 2 (taNil))))
  (ttSeq (ttSet 4 (ttLst (tlcons (tv 3) (tlcons (ttCall sp_law_bent_a nox (taV 2 (taF (tv 3) (taNil)))) (tlcons (ttCall sp_law_bent_a nox (taV 2 (taF (tv 3) (taNil)))) (tlcons (ttCall sp_law_bent_a nox (taV 2 (taF (tv 3) (taNil)))) (tlcons (ttCall sp_law_thing_a nox (taV 2 (taF (tk (.int 3)) (taNil)))) (tlnil))))))))
  (ttSeq (ttSet 4 (ttBin addT (tv 4) (ttLst (tlcons (ttCall sp_law_thing_a nox (taV 2 (taF (tk (.int 2)) (taNil)))) (tlcons (ttTup (tlcons (tk (.str "gaps")) (tlcons (ttCall sp_law_steps_a nox (taV 2 (taNil))) (tlnil)))) (tlcons (ttIx (tv 3) (tk (.int 0))) (tlcons (ttTup (tlcons (tv 3) (tlnil))) (tlcons (tk .non) (tlcons (ttTup (tlnil)) (tlcons (ttTup (tlcons (tk (.str "gaps")) (tlcons (ttTup (tlnil)) (tlnil)))) (tlnil)))))))))))
  (ttSeq (ttSet 4 (ttBin addT (tv 4) (ttLst (tlcons (ttTup (tlcons (tk (.str "gaps")) (tlcons (ttTup (tlcons (tk (.int 1)) (tlcons (tk (.int 2)) (tlcons (tk (.int 3)) (tlcons (tk (.int 4)) (tlcons (tk (.int 5)) (tlnil))))))) (tlnil)))) (tlcons (ttTup (tlcons (tk (.str "gaps")) (tlcons (ttTup (tlcons (tk (.int 2)) (tlcons (tk (.int 1)) (tlnil)))) (tlnil)))) (tlcons (ttTup (tlcons (tk (.str "gaps")) (tlcons (ttTup (tlcons (tk (.int 2)) (tlcons (tk (.int 2)) (tlnil)))) (tlnil)))) (tlcons (ttTup (tlcons (tk (.str "gaps")) (tlcons (ttTup (tlcons (tk (.int 0)) (tlcons (tk (.int 1)) (tlnil)))) (tlnil)))) (tlnil))))))))
  (ttSeq (ttSet 4 (ttBin addT (tv 4) (ttLst (tlcons (ttTup (tlcons (tk (.str "gaps")) (tlcons (ttTup (tlcons (tk (.int 10)) (tlcons (tk (.int 11)) (tlnil)))) (tlnil)))) (tlcons (ttTup (tlcons (tk (.str "gaps")) (tlcons (ttLst (tlcons (tk (.int 1)) (tlcons (tk (.int 2)) (tlnil)))) (tlnil)))) (tlcons (ttTup (tlcons (tk (.str "gaps")) (tlcons (ttTup (tlcons (tk (.int 1)) (tlnil))) (tlcons (ttTup (tlcons (tk (.int 2)) (tlnil))) (tlnil))))) (tlcons (ttTup (tlcons (tk (.str "gaps")) (tlcons (tk (.int 1)) (tlnil)))) (tlcons (ttTup (tlcons (tk (.str "gaps")) (tlnil))) (tlnil)))))))))
  (ttSeq (ttSet 4 (ttBin addT (tv 4) (ttLst (tlcons (ttTup (tlcons (tk (.str "evens")) (tlcons (ttTup (tlnil)) (tlnil)))) (tlcons (ttTup (tlcons (tk (.str "sums")) (tlcons (ttTup (tlcons (tk (.int 1)) (tlnil))) (tlnil)))) (tlcons (ttTup (tlcons (tk (.str "pairs")) (tlcons (tk .non) (tlnil)))) (tlcons (ttTup (tlcons (tk (.str "gaps")) (tlcons (ttTup (tlcons (tk (.bl true)) (tlcons (tk (.int 2)) (tlnil)))) (tlnil)))) (tlcons (ttTup (tlcons (tk (.str "gaps")) (tlcons (ttTup (tlcons (tk (.int 1)) (tlcons (tk (.int 2)) (tlcons (tk (.int 3)) (tlcons (tk (.int 4)) (tlnil)))))) (tlnil)))) (tlnil)))))))))
  (ttFor (tiSeq (sl 4)) (tgN 5) (ttSeq (ttSet 6 (ttCall sp_is_rule_a nox (taF (tv 5) (taNil))))
  (ttSeq (ttIfS (ttOr (ttNot (ttB (ttIsi "bool" (tv 6)))) (ttB (ttBin (neT) (tv 6) (ttCall sp_law_due_a nox (taF (tv 5) (taNil)))))) (ttRet (tk (.bl false))) (ttNext))
  (ttFor (tiSeq (sf (ttLst (tlcons (tv 5) (tlcons (tk (.int 7)) (tlcons (tk (.bl true)) (tlcons (tk (.bl false)) (tlcons (ttU negT (tk (.int 5))) (tlcons (ttBin powT (tk (.int 10)) (tk (.int 50))) (tlcons (tk .non) (tlcons (tk (.str "7")) (tlcons (ttTup (tlcons (tk (.int 7)) (tlnil))) (tlnil))))))))))))) (tgN 7) (ttIfS (ttOr (ttB (ttBin (neT) (ttCall sp_is_whole_a nox (taF (tv 7) (taNil))) (ttCall sp_law_is_number_a nox (taF (tv 7) (taNil))))) (ttNot (ttB (ttIsi "bool" (ttCall sp_is_whole_a nox (taF (tv 7) (taNil))))))) (ttRet (tk (.bl false))) (ttNext)))))))))))))))
  (ttRet (tk (.bl true)))
theorem ln_law_k01 : ∀ as PR PX, sp_law_k01 as PR PX → as.length = 1 := by
  rintro as PR PX ⟨ns, rfl, _⟩
  rfl
theorem top_law_k01 (ns : List Int) (h : ns.length ≤ 63) : sp_law_k01 [⟨.frz, false, .scr ns⟩] (fun r _ => r = .val false (.bl true)) fun _ _ => False := ⟨ns, rfl, h, fun _ => rfl⟩
theorem log_big01 {n : Int} (h0 : 0 ≤ n) (h1 : n < 10 ^ 300) : n.natAbs.log2 < 1920 := by
  rcases Nat.eq_zero_or_pos n.natAbs with e | e
  · rw [e]; decide
  · exact (Nat.log2_lt (by omega)).mpr (Nat.lt_of_lt_of_le (show n.natAbs < 10 ^ 300 by omega) (by decide +kernel))
theorem rule_thg {r : Rl} (hr : RlOk r) : ∃ w us, ruleT r = .tup (.str w :: us) ∧ SOk w ∧ Thg (ruleT r) := by
  cases r with
  | gaps ss => exact ⟨"gaps", [.tup (ss.map T.int)], rfl, by decide +kernel, thg_tup (by simp) (all_cons (thg_str (by decide +kernel)) (all_cons (thg_ints (by have := (show StOk ss from hr).l1; omega)) all_nil))⟩
  | evens => exact ⟨"evens", [], rfl, by decide +kernel, thg_tup (by simp) (all_cons (thg_str (by decide +kernel)) all_nil)⟩
  | sums => exact ⟨"sums", [], rfl, by decide +kernel, thg_tup (by simp) (all_cons (thg_str (by decide +kernel)) all_nil)⟩
  | pairs => exact ⟨"pairs", [], rfl, by decide +kernel, thg_tup (by simp) (all_cons (thg_str (by decide +kernel)) all_nil)⟩
theorem ok_law_k01 : ∀ as PR PX, sp_law_k01 as PR PX → rd_law_k01 (endsT as PR) (startT 8 as) := by
  rintro as PR PX ⟨ns, rfl, hn, k⟩
  have sz := sizeLine_val
  unfold rd_law_k01
  walk_at "tl"
  refine i_cells (l := 4) (m := 40) hn (by decide) (fun cs hcs => ?_)
  walk_at "tl"
  refine forT_p (α := Option T × Option T × Option T × Option T × Option T × Option T × Option T) (fun (x1, x2, x3, x4, x5, x6, x7) => [some (fz (.scr ns)), ofT x1, ofO x2, ofT x3, ofO x4, ofT x5, ofT x6, ofT x7]) (fun _ _ => True) (none, none, none, none, none, none, none) rfl trivial (fun i t x ht _ => ?_) (fun x _ => ?_)
  rotate_left
  · obtain ⟨x1, x2, x3, x4, x5, x6, x7⟩ := x
    walk_at "tl"
    exact k _
  obtain ⟨x1, x2, x3, x4, x5, x6, x7⟩ := x
  obtain ⟨n, _, rfl⟩ := ints_get ht
  walk_at "tl"
  have hm0 : 0 ≤ n % 1000000000000000000000000000000000000000000000000000000000000 := Int.emod_nonneg _ (by decide)
  have hm1 : n % 1000000000000000000000000000000000000000000000000000000000000 < 1000000000000000000000000000000000000000000000000000000000000 := Int.emod_lt_of_pos _ (by decide)
  refine ⟨by decide, log_big01 hm0 (Int.lt_trans hm1 (by decide)), by omega, ?_⟩
  obtain ⟨t, ht, s, rfl⟩ := pickA (ts := [T.str (Str.ofString ""), T.str (Str.ofString "a"), T.str (Str.ofString "none"), T.str (Str.ofString (toString (n % 1000000000000000000000000000000000000000000000000000000000000)))]) (i := n % 4) (p := fun t => ∃ s, t = .str s) (Int.emod_nonneg _ (by decide)) (by show n % 4 < 4; omega) (all_cons ⟨_, rfl⟩ (all_cons ⟨_, rfl⟩ (all_cons ⟨_, rfl⟩ (all_cons ⟨_, rfl⟩ all_nil))))
  refine ⟨_, ht, i_apart ?_⟩
  walk_at "tl"
  refine i_dig (fun a b c => ?_)
  walk_at "tl"
  refine i_rule_a (fun r a b c hr => ?_)
  walk_at "tl"
  refine i_bent hr (fun o1 t1 a b c k1 l1 => ?_)
  walk_at "tl"
  refine i_bent hr (fun o2 t2 a b c k2 l2 => ?_)
  walk_at "tl"
  refine i_bent hr (fun o3 t3 a b c k3 l3 => ?_)
  walk_at "tl"
  refine i_thing (by decide) (by decide) (fun o4 t4 a b c k4 l4 => ?_)
  walk_at "tl"
  refine ⟨by omega, i_thing (by decide) (by decide) (fun o5 t5 a b c k5 l5 => ?_)⟩
  walk_at "tl"
  refine i_steps (fun zs a b c z1 z2 z3 => ?_)
  walk_at "tl"
  refine ⟨by omega, ?_⟩
  obtain ⟨w, us, hR, hw, hT⟩ := rule_thg hr
  generalize hv : ruleT r = v
  rw [hR] at hv hT
  subst hv
  walk_at "tl"
  repeat (refine And.intro (by first | omega | decide) ?_)
  generalize hL : (T.tup (T.str w :: us) :: t1 :: _) = L
  have hA : ∀ t ∈ L, Thg t := by
    rw [← hL]
    repeat (any_goals (first | exact all_nil | assumption | exact thg_non | exact thg_int | exact thg_bl | exact thg_lst | exact thg_str hw | exact thg_ints (by omega) | exact thg_str (by decide +kernel) | refine all_cons ?_ ?_ | refine thg_tup (by simp) ?_))
  refine forT_p (α := Option T × Option T × Option T) (fun (x5, x6, x7) => [some (fz (.scr ns)), some (fz (.int n)), some ⟨.own, false, pl a b c⟩, some (fz (.tup (.str w :: us))), some ⟨.own, true, .lst L⟩, ofT x5, ofT x6, ofT x7]) (fun _ _ => True) (x5, x6, x7) rfl trivial (fun i t x ht _ => ?_) (fun x _ => ?_)
  rotate_left
  · obtain ⟨x5, x6, x7⟩ := x
    walk_at "tl"
    exact ⟨(some _, some _, some _, some _, x5, x6, x7), rfl⟩
  obtain ⟨x5, x6, x7⟩ := x
  have hT := hA t (List.mem_of_getElem? ht)
  walk_at "tl"
  refine i_is_rule hT.k4 ?_
  walk_at "tl"
  refine i_due hT ?_
  walk_at "tl"
  refine ⟨by decide, by omega, by omega, ?_⟩
  refine forT_p (α := Option T) (fun x7 => [some (fz (.scr ns)), some (fz (.int n)), some ⟨.own, false, pl a b c⟩, some (fz (.tup (.str w :: us))), some ⟨.own, true, .lst L⟩, some (fz t), some (fz (.bl (ruleB t))), ofT x7]) (fun _ _ => True) x7 rfl trivial (fun j p x ht _ => ?_) (fun x _ => ?_)
  · have ho : okT p = true := by
      have := List.mem_of_getElem? ht
      simp only [List.mem_cons, List.not_mem_nil, or_false] at this
      rcases this with rfl | rfl | rfl | rfl | rfl | rfl | rfl | rfl | rfl
      · exact hT.ok
      all_goals rfl
    walk_at "tl"
    refine i_is_whole ho ?_
    walk_at "tl"
    refine i_is_number ho ?_
    walk_at "tl"
    refine i_is_whole ho ?_
    walk_at "tl"
    exact ⟨some _, rfl⟩
  · walk_at "tl"
    exact ⟨(some _, some _, x), rfl⟩
end Lib

namespace Wk
open PySem PySem.Spec PyProof.Rows L2 TL Lib HX WkH
abbrev Cs : List String := ["Broken", "IsIn", "NoNumber", "NoPaper", "NoPast", "NoPlace", "NoRow", "NoStart", "NoText", "ShunError", "TooLow", "TooMuch"]
structure Bi (K : PySem.W.Frag) (mg : Str → Option Value) (cls : String → Addr) : Prop where
  x_Broken : ExF K mg cls "Broken" "Broken"
  x_IsIn : ExF K mg cls "IsIn" "IsIn"
  x_NoNumber : ExF K mg cls "NoNumber" "NoNumber"
  x_NoPaper : ExF K mg cls "NoPaper" "NoPaper"
  x_NoPast : ExF K mg cls "NoPast" "NoPast"
  x_NoPlace : ExF K mg cls "NoPlace" "NoPlace"
  x_NoRow : ExF K mg cls "NoRow" "NoRow"
  x_NoStart : ExF K mg cls "NoStart" "NoStart"
  x_NoText : ExF K mg cls "NoText" "NoText"
  x_ShunError : ExF K mg cls "ShunError" "ShunError"
  x_TooLow : ExF K mg cls "TooLow" "TooLow"
  x_TooMuch : ExF K mg cls "TooMuch" "TooMuch"
  q_ShunError : ∀ c, Cs.contains c = true → PySem.W.kitOne K (.ref (cls c)) (.ref (cls "ShunError")) = some (isSub c ["ShunError"])
  q_Broken : ∀ c, Cs.contains c = true → PySem.W.kitOne K (.ref (cls c)) (.ref (cls "Broken")) = some (isSub c ["Broken"])
  q_NoStart : ∀ c, Cs.contains c = true → PySem.W.kitOne K (.ref (cls c)) (.ref (cls "NoStart")) = some (isSub c ["NoStart"])
  q_TooMuch : ∀ c, Cs.contains c = true → PySem.W.kitOne K (.ref (cls c)) (.ref (cls "TooMuch")) = some (isSub c ["TooMuch"])
  q_TooLow : ∀ c, Cs.contains c = true → PySem.W.kitOne K (.ref (cls c)) (.ref (cls "TooLow")) = some (isSub c ["TooLow"])
  q_IsIn : ∀ c, Cs.contains c = true → PySem.W.kitOne K (.ref (cls c)) (.ref (cls "IsIn")) = some (isSub c ["IsIn"])
  q_NoPlace : ∀ c, Cs.contains c = true → PySem.W.kitOne K (.ref (cls c)) (.ref (cls "NoPlace")) = some (isSub c ["NoPlace"])
  q_NoPaper : ∀ c, Cs.contains c = true → PySem.W.kitOne K (.ref (cls c)) (.ref (cls "NoPaper")) = some (isSub c ["NoPaper"])
  q_NoText : ∀ c, Cs.contains c = true → PySem.W.kitOne K (.ref (cls c)) (.ref (cls "NoText")) = some (isSub c ["NoText"])
  q_NoRow : ∀ c, Cs.contains c = true → PySem.W.kitOne K (.ref (cls c)) (.ref (cls "NoRow")) = some (isSub c ["NoRow"])
  q_NoNumber : ∀ c, Cs.contains c = true → PySem.W.kitOne K (.ref (cls c)) (.ref (cls "NoNumber")) = some (isSub c ["NoNumber"])
  q_NoPast : ∀ c, Cs.contains c = true → PySem.W.kitOne K (.ref (cls c)) (.ref (cls "NoPast")) = some (isSub c ["NoPast"])
  q_ValueError : ∀ c, Cs.contains c = true → PySem.W.kitOne K (.ref (cls c)) (.type "ValueError") = some (isSub c ["ValueError"])
  xc : ∀ c, Cs.contains c = true → ExcC K (cls c)
  nx : ∀ c, Cs.contains c = true → PySem.W.nsIn K mainGlobals (Str.ofString c) = some (some (.ref (cls c)))
  hx : ∀ c, Cs.contains c = true → PySem.W.exmOne K (.ref (cls c)) (.ref (cls "ShunError")) = some true
  gS : mg "ShunError" = some (.ref (cls "ShunError"))
  b_ValueError : mg "ValueError" = none
  b_all : mg "all" = none
  b_bool : mg "bool" = none
  b_int : mg "int" = none
  b_isinstance : mg "isinstance" = none
  b_len : mg "len" = none
  b_list : mg "list" = none
  b_max : mg "max" = none
  b_range : mg "range" = none
  b_set : mg "set" = none
  b_sorted : mg "sorted" = none
  b_str : mg "str" = none
  b_tuple : mg "tuple" = none
  b_zip : mg "zip" = none
  g_MOST_STEP : ∃ v u, mg "MOST_STEP" = some u ∧ RelV v u ∧ ∀ F, Rep K F (.int 10) v
  g_MOST_STEPS : ∃ v u, mg "MOST_STEPS" = some u ∧ RelV v u ∧ ∀ F, Rep K F (.int 4) v
  g_PLAIN : ∃ v u, mg "PLAIN" = some u ∧ RelV v u ∧ ∀ F, Rep K F (.tup [.tup [.str "evens"], .tup [.str "sums"], .tup [.str "pairs"]]) v
abbrev N_law_cells_a : List Str := ["script", "least", "most", "found"]
theorem sc_law_cells_a : FnScope N_law_cells_a ["script", "least", "most"] (defScope s_law_cells_a) := ⟨rfl, rfl, rfl, by decide +kernel, rfl, by decide +kernel, by decide +kernel⟩
abbrev N_law_dig_a : List Str := ["cell"]
theorem sc_law_dig_a : FnScope N_law_dig_a ["cell"] (defScope s_law_dig_a) := ⟨rfl, rfl, rfl, by decide +kernel, rfl, by decide +kernel, by decide +kernel⟩
abbrev N_law_next_a : List Str := ["pool", "base", "mixed", "stir", "digit"]
theorem sc_law_next_a : FnScope N_law_next_a ["pool", "base"] (defScope s_law_next_a) := ⟨rfl, rfl, rfl, by decide +kernel, rfl, by decide +kernel, by decide +kernel⟩
abbrev N_law_rule_a : List Str := ["pool", "way", "steps", "turn"]
theorem sc_law_rule_a : FnScope N_law_rule_a ["pool"] (defScope s_law_rule_a) := ⟨rfl, rfl, rfl, by decide +kernel, rfl, by decide +kernel, by decide +kernel⟩
abbrev N_law_made_a : List Str := ["text", "made"]
theorem sc_law_made_a : FnScope N_law_made_a ["text"] (defScope s_law_made_a) := ⟨rfl, rfl, rfl, by decide +kernel, rfl, by decide +kernel, by decide +kernel⟩
abbrev N_law_kinds_a : List Str := ["made", "some"]
theorem sc_law_kinds_a : FnScope N_law_kinds_a ["made"] (defScope s_law_kinds_a) := ⟨rfl, rfl, rfl, by decide +kernel, rfl, by decide +kernel, by decide +kernel⟩
abbrev N_law_apart_a : List Str := ["text", "made", "which", "plain", "k"]
theorem sc_law_apart_a : FnScope N_law_apart_a ["text"] (defScope s_law_apart_a) := ⟨rfl, rfl, rfl, by decide +kernel, rfl, by decide +kernel, by decide +kernel⟩
abbrev N_law_steps_a : List Str := ["pool", "steps", "turn"]
theorem sc_law_steps_a : FnScope N_law_steps_a ["pool"] (defScope s_law_steps_a) := ⟨rfl, rfl, rfl, by decide +kernel, rfl, by decide +kernel, by decide +kernel⟩
abbrev N_law_thing_a : List Str := ["pool", "deep", "way", "some", "turn"]
theorem sc_law_thing_a : FnScope N_law_thing_a ["pool", "deep"] (defScope s_law_thing_a) := ⟨rfl, rfl, rfl, by decide +kernel, rfl, by decide +kernel, by decide +kernel⟩
abbrev N_law_bent_a : List Str := ["pool", "rule", "parts", "way", "steps", "at"]
theorem sc_law_bent_a : FnScope N_law_bent_a ["pool", "rule"] (defScope s_law_bent_a) := ⟨rfl, rfl, rfl, by decide +kernel, rfl, by decide +kernel, by decide +kernel⟩
abbrev N_is_whole_a : List Str := ["thing"]
theorem sc_is_whole_a : FnScope N_is_whole_a ["thing"] (defScope s_is_whole_a) := ⟨rfl, rfl, rfl, by decide +kernel, rfl, by decide +kernel, by decide +kernel⟩
abbrev N_is_rising_a : List Str := ["thing", "one", "other", "number"]
theorem sc_is_rising_a : FnScope N_is_rising_a ["thing"] (defScope s_is_rising_a) := ⟨rfl, rfl, rfl, by decide +kernel, rfl, by decide +kernel, by decide +kernel⟩
abbrev N_is_steps_a : List Str := ["thing"]
theorem sc_is_steps_a : FnScope N_is_steps_a ["thing"] (defScope s_is_steps_a) := ⟨rfl, rfl, rfl, by decide +kernel, rfl, by decide +kernel, by decide +kernel⟩
abbrev N_is_rule_a : List Str := ["thing"]
theorem sc_is_rule_a : FnScope N_is_rule_a ["thing"] (defScope s_is_rule_a) := ⟨rfl, rfl, rfl, by decide +kernel, rfl, by decide +kernel, by decide +kernel⟩
abbrev N_law_is_number_a : List Str := ["thing"]
theorem sc_law_is_number_a : FnScope N_law_is_number_a ["thing"] (defScope s_law_is_number_a) := ⟨rfl, rfl, rfl, by decide +kernel, rfl, by decide +kernel, by decide +kernel⟩
abbrev N_law_due_a : List Str := ["thing", "steps", "step"]
theorem sc_law_due_a : FnScope N_law_due_a ["thing"] (defScope s_law_due_a) := ⟨rfl, rfl, rfl, by decide +kernel, rfl, by decide +kernel, by decide +kernel⟩
abbrev N_law_k01 : List Str := ["script", "cell", "pool", "rule", "some", "thing", "found", "part"]
theorem sc_law_k01 : FnScope N_law_k01 ["script"] (defScope s_law_k01) := ⟨rfl, rfl, rfl, by decide +kernel, rfl, by decide +kernel, by decide +kernel⟩
section
variable {P : Program} {w : World} {K : PySem.W.Frag} {mg : Str → Option Value} {base : Heap} {cls : String → Addr} {f : Addr} {fd : FuncData}
theorem fn_law_cells_a (Fn : Fun K "_law_cells" "_law_cells" s_law_cells_a f fd) (Z : Bi K mg cls) : FnOk P w K mg base CX0 1 f fd ["script", "least", "most"] (liftSp K cls sp_law_cells_a) := by
  have nd := sc_law_cells_a.nd
  refine def0 (N := N_law_cells_a) (ps := ["script", "least", "most"]) (k := 0) (t := rd_law_cells_a) Fn sc_law_cells_a ln_law_cells_a (fun cdv A outer s H E B hr => ?_) (fun as PR PX h => ok_law_cells_a as PR PX h)
  have hu65 := Room.units65 hr
  exact tpss_cons (tps_set (i := 3) nd rfl (Or.inl rfl) (tpe_ct1 c_list (by rfl) Z.b_list (by decide +kernel) (tpe_sl (tpe_v 0) (tpo_n) (tpo_s (tpe_v 2)))))
      (tpss_cons (tps_while PassesOwn.never (tpt_cmp o_lt (tpe_c1 c_len (by rfl) Z.b_len (by decide +kernel) (tpe_v 3)) (tpe_v 1) (nomark _)) (tpss_one (tps_expr (tpe_mutL (i := 3) m_append PySem.F.slot_list_append PySem.F.type_list_append rfl (by first | exact Or.inl rfl | exact Or.inr (Or.inl rfl) | exact Or.inr (Or.inr rfl)) (tpl_cons (tpe_bin o_add (tpe_bin o_mul (tpe_bin o_mul (tpe_int) (tpe_c1 c_len (by rfl) Z.b_len (by decide +kernel) (tpe_v 3))) (tpe_c1 c_len (by rfl) Z.b_len (by decide +kernel) (tpe_v 3))) (tpe_bin o_mul (tpe_int) (tpe_c1 c_len (by rfl) Z.b_len (by decide +kernel) (tpe_v 3)))) (tpl_nil))))))
      (tpss_one (tps_ret (tpe_v 3))))
theorem fn_law_dig_a (Fn : Fun K "_law_dig" "_law_dig" s_law_dig_a f fd) (Z : Bi K mg cls) : FnOk P w K mg base CX0 1 f fd ["cell"] (liftSp K cls sp_law_dig_a) := by
  have nd := sc_law_dig_a.nd
  refine def0 (N := N_law_dig_a) (ps := ["cell"]) (k := 0) (t := rd_law_dig_a) Fn sc_law_dig_a ln_law_dig_a (fun cdv A outer s H E B hr => ?_) (fun as PR PX h => ok_law_dig_a as PR PX h)
  have hu65 := Room.units65 hr
  exact tpss_one (tps_ret (tpe_lst (tpl_cons (tpe_cn (c_max2 rfl) (by rfl) Z.b_max (by decide +kernel) (tpl_cons (tpe_int) (tpl_cons (tpe_bin o_sub (tpe_v 0) (tpe_bin o_pow (tpe_int) (tpe_int))) (tpl_nil)))) (tpl_cons (tpe_bin o_mod (tpe_v 0) (tpe_bin o_pow (tpe_int) (tpe_int))) (tpl_cons (tpe_int) (tpl_nil))))))
theorem fn_law_next_a (Fn : Fun K "_law_next" "_law_next" s_law_next_a f fd) (Z : Bi K mg cls) : FnOk P w K mg base CX0 1 f fd ["pool", "base"] (liftSp K cls sp_law_next_a) := by
  have nd := sc_law_next_a.nd
  refine def0 (N := N_law_next_a) (ps := ["pool", "base"]) (k := 0) (t := rd_law_next_a) Fn sc_law_next_a ln_law_next_a (fun cdv A outer s H E B hr => ?_) (fun as PR PX h => ok_law_next_a as PR PX h)
  have hu65 := Room.units65 hr
  exact tpss_cons (tps_if (tpt_cmp o_gt (tpe_ix hr.units (tpe_v 0) (tpe_int) (fun _ _ => rfl)) (tpe_int) (nomark _)) (tpss_cons (tps_set (i := 4) nd rfl (Or.inl rfl) (tpe_bin o_mod (tpe_ix hr.units (tpe_v 0) (tpe_int) (fun _ _ => rfl)) (tpe_v 1)))
      (tpss_cons (tps_setIx (i := 0) hr.units rfl (by first | exact Or.inl rfl | exact Or.inr (Or.inl rfl) | exact Or.inr (Or.inr rfl)) (tpe_bin o_fdiv (tpe_ix hr.units (tpe_v 0) (tpe_int) (fun _ _ => rfl)) (tpe_v 1)) (tpe_int))
      (tpss_one (tps_ret (tpe_v 4))))) (tpss_nil))
      (tpss_cons (tps_setIx (i := 0) hr.units rfl (by first | exact Or.inl rfl | exact Or.inr (Or.inl rfl) | exact Or.inr (Or.inr rfl)) (tpe_bin o_add (tpe_ix hr.units (tpe_v 0) (tpe_int) (fun _ _ => rfl)) (tpe_int)) (tpe_int))
      (tpss_cons (tps_set (i := 2) nd rfl (Or.inl rfl) (tpe_bin o_mod (tpe_bin o_add (tpe_ix hr.units (tpe_v 0) (tpe_int) (fun _ _ => rfl)) (tpe_bin o_mul (tpe_int) (tpe_ix hr.units (tpe_v 0) (tpe_int) (fun _ _ => rfl)))) (tpe_int)))
      (tpss_cons (tps_set (i := 3) nd rfl (Or.inl rfl) (tpe_bin o_mod (tpe_bin o_mul (tpe_bin o_add (tpe_v 2) (tpe_int)) (tpe_bin o_add (tpe_v 2) (tpe_int))) (tpe_int)))
      (tpss_one (tps_ret (tpe_bin o_mod (tpe_bin o_fdiv (tpe_bin o_mod (tpe_bin o_mul (tpe_v 3) (tpe_v 3)) (tpe_int)) (tpe_int)) (tpe_v 1)))))))
theorem fn_law_rule_a (Fn : Fun K "_law_rule" "_law_rule" s_law_rule_a f fd) (Z : Bi K mg cls) (C_law_next_a : TL.Cal P w K mg base CX0 cls "_law_next" ["pool", "base"] 1 sp_law_next_a) : FnOk P w K mg base CX0 2 f fd ["pool"] (liftSp K cls sp_law_rule_a) := by
  have nd := sc_law_rule_a.nd
  refine def0 (N := N_law_rule_a) (ps := ["pool"]) (k := 1) (t := rd_law_rule_a) Fn sc_law_rule_a ln_law_rule_a (fun cdv A outer s H E B hr => ?_) (fun as PR PX h => ok_law_rule_a as PR PX h)
  have hu65 := Room.units65 hr
  exact tpss_cons (tps_set (i := 1) nd rfl (Or.inl rfl) (tpe_calls C_law_next_a (hr.mono (by decide)) (by rfl) (tpa_v 0 (tpa_f (tpe_int) (tpa_nil)))))
      (tpss_cons (tps_if (tpt_cmp o_lt (tpe_v 1) (tpe_int) (nomark _)) (tpss_one (tps_ret (tpe_tup (tpl_cons (tpe_ix hr.units (tpe_lst (tpl_cons (tpe_str) (tpl_cons (tpe_str) (tpl_cons (tpe_str) (tpl_nil))))) (tpe_v 1) (fun _ _ => rfl)) (tpl_nil))))) (tpss_nil))
      (tpss_cons (tps_set (i := 2) nd rfl (Or.inl rfl) (tpe_dict0))
      (tpss_cons (tps_for PassesOwn.never rfl (tpi_rng1 (by rfl) Z.b_range (tpl_cons (tpe_bin o_add (tpe_int) (tpe_calls C_law_next_a (hr.mono (by decide)) (by rfl) (tpa_v 0 (tpa_f (tpe_int) (tpa_nil))))) (tpl_nil))) (tpg_n (i := 3) nd rfl (Or.inl rfl)) (tpss_one (tps_setIx (i := 2) hr.units rfl (by first | exact Or.inl rfl | exact Or.inr (Or.inl rfl) | exact Or.inr (Or.inr rfl)) (tpe_bl) (tpe_bin o_add (tpe_int) (tpe_calls C_law_next_a (hr.mono (by decide)) (by rfl) (tpa_v 0 (tpa_f (tpe_int) (tpa_nil))))))))
      (tpss_one (tps_ret (tpe_tup (tpl_cons (tpe_str) (tpl_cons (tpe_ct1 c_tuple (by rfl) Z.b_tuple (by decide +kernel) (tpe_c1 (c_sortedD rfl) (by rfl) Z.b_sorted (by decide +kernel) (tpe_v 2))) (tpl_nil)))))))))
theorem fn_law_made_a (Fn : Fun K "_law_made" "_law_made" s_law_made_a f fd) (Z : Bi K mg cls) : FnOk P w K mg base CX0 1 f fd ["text"] (liftSp K cls sp_law_made_a) := by
  have nd := sc_law_made_a.nd
  refine def0 (N := N_law_made_a) (ps := ["text"]) (k := 0) (t := rd_law_made_a) Fn sc_law_made_a ln_law_made_a (fun cdv A outer s H E B hr => ?_) (fun as PR PX h => ok_law_made_a as PR PX h)
  have hu65 := Room.units65 hr
  exact tpss_cons (tps_set (i := 1) nd rfl (Or.inl rfl) (tpe_lst (tpl_cons (tpe_newX Z.x_Broken (Z.nx "Broken" (by decide)) (by rfl) (tpe_v 0)) (tpl_cons (tpe_newX Z.x_NoStart (Z.nx "NoStart" (by decide)) (by rfl) (tpe_v 0)) (tpl_cons (tpe_newX Z.x_TooMuch (Z.nx "TooMuch" (by decide)) (by rfl) (tpe_v 0)) (tpl_cons (tpe_newX Z.x_TooLow (Z.nx "TooLow" (by decide)) (by rfl) (tpe_v 0)) (tpl_cons (tpe_newX Z.x_IsIn (Z.nx "IsIn" (by decide)) (by rfl) (tpe_v 0)) (tpl_cons (tpe_newX Z.x_NoPlace (Z.nx "NoPlace" (by decide)) (by rfl) (tpe_v 0)) (tpl_cons (tpe_newX Z.x_NoPaper (Z.nx "NoPaper" (by decide)) (by rfl) (tpe_v 0)) (tpl_nil))))))))))
      (tpss_one (tps_ret (tpe_bin o_add (tpe_v 1) (tpe_lst (tpl_cons (tpe_newX Z.x_NoText (Z.nx "NoText" (by decide)) (by rfl) (tpe_v 0)) (tpl_cons (tpe_newX Z.x_NoRow (Z.nx "NoRow" (by decide)) (by rfl) (tpe_v 0)) (tpl_cons (tpe_newX Z.x_NoNumber (Z.nx "NoNumber" (by decide)) (by rfl) (tpe_v 0)) (tpl_cons (tpe_newX Z.x_NoPast (Z.nx "NoPast" (by decide)) (by rfl) (tpe_v 0)) (tpl_nil)))))))))
theorem fn_law_kinds_a (Fn : Fun K "_law_kinds" "_law_kinds" s_law_kinds_a f fd) (Z : Bi K mg cls) : FnOk P w K mg base CX0 1 f fd ["made"] (liftSp K cls sp_law_kinds_a) := by
  have nd := sc_law_kinds_a.nd
  refine def0 (N := N_law_kinds_a) (ps := ["made"]) (k := 0) (t := rd_law_kinds_a) Fn sc_law_kinds_a ln_law_kinds_a (fun cdv A outer s H E B hr => ?_) (fun as PR PX h => ok_law_kinds_a as PR PX h)
  have hu65 := Room.units65 hr
  exact tpss_cons (tps_set (i := 1) nd rfl (Or.inl rfl) (tpe_lst (tpl_cons (tpe_isX Z.xc Z.nx Z.q_Broken (by rfl) Z.b_isinstance (cln_own (by rfl) Z.x_Broken.g) (tpe_v 0)) (tpl_cons (tpe_isX Z.xc Z.nx Z.q_NoStart (by rfl) Z.b_isinstance (cln_own (by rfl) Z.x_NoStart.g) (tpe_v 0)) (tpl_cons (tpe_isX Z.xc Z.nx Z.q_TooMuch (by rfl) Z.b_isinstance (cln_own (by rfl) Z.x_TooMuch.g) (tpe_v 0)) (tpl_cons (tpe_isX Z.xc Z.nx Z.q_TooLow (by rfl) Z.b_isinstance (cln_own (by rfl) Z.x_TooLow.g) (tpe_v 0)) (tpl_nil)))))))
      (tpss_cons (tps_set (i := 1) nd rfl (Or.inl rfl) (tpe_bin o_add (tpe_v 1) (tpe_lst (tpl_cons (tpe_isX Z.xc Z.nx Z.q_IsIn (by rfl) Z.b_isinstance (cln_own (by rfl) Z.x_IsIn.g) (tpe_v 0)) (tpl_cons (tpe_isX Z.xc Z.nx Z.q_NoPlace (by rfl) Z.b_isinstance (cln_own (by rfl) Z.x_NoPlace.g) (tpe_v 0)) (tpl_cons (tpe_isX Z.xc Z.nx Z.q_NoPaper (by rfl) Z.b_isinstance (cln_own (by rfl) Z.x_NoPaper.g) (tpe_v 0)) (tpl_nil)))))))
      (tpss_cons (tps_set (i := 1) nd rfl (Or.inl rfl) (tpe_bin o_add (tpe_v 1) (tpe_lst (tpl_cons (tpe_isX Z.xc Z.nx Z.q_NoText (by rfl) Z.b_isinstance (cln_own (by rfl) Z.x_NoText.g) (tpe_v 0)) (tpl_cons (tpe_isX Z.xc Z.nx Z.q_NoRow (by rfl) Z.b_isinstance (cln_own (by rfl) Z.x_NoRow.g) (tpe_v 0)) (tpl_cons (tpe_isX Z.xc Z.nx Z.q_NoNumber (by rfl) Z.b_isinstance (cln_own (by rfl) Z.x_NoNumber.g) (tpe_v 0)) (tpl_nil)))))))
      (tpss_one (tps_ret (tpe_bin o_add (tpe_v 1) (tpe_lst (tpl_cons (tpe_isX Z.xc Z.nx Z.q_NoPast (by rfl) Z.b_isinstance (cln_own (by rfl) Z.x_NoPast.g) (tpe_v 0)) (tpl_nil))))))))
theorem fn_law_apart_a (Fn : Fun K "_law_apart" "_law_apart" s_law_apart_a f fd) (Z : Bi K mg cls) (C_law_kinds_a : TL.Cal P w K mg base CX0 cls "_law_kinds" ["made"] 1 sp_law_kinds_a) (C_law_made_a : TL.Cal P w K mg base CX0 cls "_law_made" ["text"] 1 sp_law_made_a) : FnOk P w K mg base CX0 2 f fd ["text"] (liftSp K cls sp_law_apart_a) := by
  have nd := sc_law_apart_a.nd
  refine def0 (N := N_law_apart_a) (ps := ["text"]) (k := 1) (t := rd_law_apart_a) Fn sc_law_apart_a ln_law_apart_a (fun cdv A outer s H E B hr => ?_) (fun as PR PX h => ok_law_apart_a as PR PX h)
  have hu65 := Room.units65 hr
  exact tpss_cons (tps_set (i := 1) nd rfl (Or.inl rfl) (tpe_calls C_law_made_a (hr.mono (by decide)) (by rfl) (tpa_f (tpe_v 0) (tpa_nil))))
      (tpss_cons (tps_for PassesOwn.never rfl (tpi_rng1 (by rfl) Z.b_range (tpl_cons (tpe_c1 c_len (by rfl) Z.b_len (by decide +kernel) (tpe_v 1)) (tpl_nil))) (tpg_n (i := 2) nd rfl (Or.inr rfl)) (tpss_cons (tps_if ((tpw_or (tpt_not (tpt_val (tpe_isX Z.xc Z.nx Z.q_ShunError (by rfl) Z.b_isinstance (cln_own (by rfl) Z.x_ShunError.g) (tpe_ix hr.units (tpe_v 1) (tpe_v 2) (fun _ _ => rfl))))) (tpw_or1 (tpt_not (tpt_val (tpe_isX Z.xc Z.nx Z.q_ValueError (by rfl) Z.b_isinstance (cln_ty (by rfl) Z.b_ValueError (by decide +kernel)) (tpe_ix hr.units (tpe_v 1) (tpe_v 2) (fun _ _ => rfl))))))).pt) (tpss_one (tps_ret (tpe_bl))) (tpss_nil))
      (tpss_one (tps_if (tpt_cmp (o_ne hr.units) (tpe_calls C_law_kinds_a (hr.mono (by decide)) (by rfl) (tpa_f (tpe_ix hr.units (tpe_v 1) (tpe_v 2) (fun _ _ => rfl)) (tpa_nil))) (tpe_lc (own := [("k", 4)]) rfl nd (tpi_rng1 (by rfl) Z.b_range (tpl_cons (tpe_c1 c_len (by rfl) Z.b_len (by decide +kernel) (tpe_v 1)) (tpl_nil))) (blkOk_by (own := [("k", 4)]) (N := N_law_apart_a) (sc := defScope s_law_apart_a) (by decide +kernel)) (by decide) (fun _ _ _ _ _ => tpg_n (i := 4) nd rfl (by first | exact Or.inl rfl | exact Or.inr rfl)) (fun _ _ _ _ _ => tpts_nil) (fun _ _ _ _ _ => tpe_cmp (o_eq hr.units) (tpe_v 4) (tpe_v 2) (nomark _))) (nomark _)) (tpss_one (tps_ret (tpe_bl))) (tpss_nil)))))
      (tpss_cons (tps_set (i := 3) nd rfl (Or.inl rfl) (tpe_newX Z.x_ShunError (Z.nx "ShunError" (by decide)) (by rfl) (tpe_v 0)))
      (tpss_one (tps_ret (tpe_and (tpe_isX Z.xc Z.nx Z.q_ValueError (by rfl) Z.b_isinstance (cln_ty (by rfl) Z.b_ValueError (by decide +kernel)) (tpe_v 3)) (tpe_one (tpe_cmp (o_notin hu65) (tpe_bl) (tpe_calls C_law_kinds_a (hr.mono (by decide)) (by rfl) (tpa_f (tpe_v 3) (tpa_nil))) (by rfl))))))))
theorem fn_law_steps_a (Fn : Fun K "_law_steps" "_law_steps" s_law_steps_a f fd) (Z : Bi K mg cls) (C_law_next_a : TL.Cal P w K mg base CX0 cls "_law_next" ["pool", "base"] 1 sp_law_next_a) : FnOk P w K mg base CX0 2 f fd ["pool"] (liftSp K cls sp_law_steps_a) := by
  have nd := sc_law_steps_a.nd
  refine def0 (N := N_law_steps_a) (ps := ["pool"]) (k := 1) (t := rd_law_steps_a) Fn sc_law_steps_a ln_law_steps_a (fun cdv A outer s H E B hr => ?_) (fun as PR PX h => ok_law_steps_a as PR PX h)
  have hu65 := Room.units65 hr
  exact tpss_cons (tps_set (i := 1) nd rfl (Or.inl rfl) (tpe_dict0))
      (tpss_cons (tps_for PassesOwn.never rfl (tpi_rng1 (by rfl) Z.b_range (tpl_cons (tpe_calls C_law_next_a (hr.mono (by decide)) (by rfl) (tpa_v 0 (tpa_f (tpe_int) (tpa_nil)))) (tpl_nil))) (tpg_n (i := 2) nd rfl (Or.inl rfl)) (tpss_one (tps_setIx (i := 1) hr.units rfl (by first | exact Or.inl rfl | exact Or.inr (Or.inl rfl) | exact Or.inr (Or.inr rfl)) (tpe_bl) (tpe_calls C_law_next_a (hr.mono (by decide)) (by rfl) (tpa_v 0 (tpa_f (tpe_int) (tpa_nil)))))))
      (tpss_one (tps_ret (tpe_ct1 c_tuple (by rfl) Z.b_tuple (by decide +kernel) (tpe_c1 (c_sortedD rfl) (by rfl) Z.b_sorted (by decide +kernel) (tpe_v 1))))))
theorem fn_thing0 {k : Nat} {ps : List Str} : FnOk P w K mg base CX0 k f fd ps (liftSp K cls (sp_thing 0)) := ⟨fun vs H Q E ⟨_, _, _, _, _, h, _⟩ => (no_thing h).elim, fun A outer s H args us vs Q E _ _ _ _ ⟨_, _, _, _, _, h, _⟩ => (no_thing h).elim⟩
theorem fn_law_thing_a0 (Fn : Fun K "_law_thing" "_law_thing" s_law_thing_a f fd) (Z : Bi K mg cls) (C_law_next_a : TL.Cal P w K mg base CX0 cls "_law_next" ["pool", "base"] 1 sp_law_next_a) (C_law_steps_a : TL.Cal P w K mg base CX0 cls "_law_steps" ["pool"] 2 sp_law_steps_a) (C_law_thing_a : TL.Cal P w K mg base CX0 cls "_law_thing" ["pool", "deep"] 2 (sp_thing 0)) : FnOk P w K mg base CX0 3 f fd ["pool", "deep"] (liftSp K cls (sp_thing (0 + 1))) := by
  have nd := sc_law_thing_a.nd
  refine def0 (N := N_law_thing_a) (ps := ["pool", "deep"]) (k := 2) (t := rd_law_thing_a (sp_thing 0)) Fn sc_law_thing_a (ln_law_thing_a (0 + 1)) (fun cdv A outer s H E B hr => ?_) (fun as PR PX h => ok_law_thing_a 0 as PR PX h)
  have hu65 := Room.units65 hr
  exact tpss_cons (tps_set (i := 2) nd rfl (Or.inl rfl) (tpe_calls C_law_next_a (hr.mono (by decide)) (by rfl) (tpa_v 0 (tpa_f (tpe_int) (tpa_nil)))))
      (tpss_cons (tps_if ((tpw_and (tpt_cmp (o_eq hr.units) (tpe_v 2) (tpe_int) (nomark _)) (tpw_and1 (tpt_cmp o_gt (tpe_v 1) (tpe_int) (nomark _)))).pt) (tpss_one (tps_ret (tpe_lc (own := [("turn", 4)]) rfl nd (tpi_rng1 (by rfl) Z.b_range (tpl_cons (tpe_calls C_law_next_a (hr.mono (by decide)) (by rfl) (tpa_v 0 (tpa_f (tpe_int) (tpa_nil)))) (tpl_nil))) (blkOk_by (own := [("turn", 4)]) (N := N_law_thing_a) (sc := defScope s_law_thing_a) (by decide +kernel)) (by decide) (fun _ _ _ _ _ => tpg_n (i := 4) nd rfl (by first | exact Or.inl rfl | exact Or.inr rfl)) (fun _ _ _ _ _ => tpts_nil) (fun _ _ _ _ _ => tpe_calls C_law_thing_a (hr.mono (by decide)) (by rfl) (tpa_v 0 (tpa_f (tpe_bin o_sub (tpe_v 1) (tpe_int)) (tpa_nil))))))) (tpss_nil))
      (tpss_cons (tps_if ((tpw_and (tpt_cmp o_lt (tpe_v 2) (tpe_int) (nomark _)) (tpw_and1 (tpt_cmp o_gt (tpe_v 1) (tpe_int) (nomark _)))).pt) (tpss_one (tps_ret (tpe_ct1 c_tuple (by rfl) Z.b_tuple (by decide +kernel) (tpe_lc (own := [("turn", 4)]) rfl nd (tpi_rng1 (by rfl) Z.b_range (tpl_cons (tpe_calls C_law_next_a (hr.mono (by decide)) (by rfl) (tpa_v 0 (tpa_f (tpe_int) (tpa_nil)))) (tpl_nil))) (blkOk_by (own := [("turn", 4)]) (N := N_law_thing_a) (sc := defScope s_law_thing_a) (by decide +kernel)) (by decide) (fun _ _ _ _ _ => tpg_n (i := 4) nd rfl (by first | exact Or.inl rfl | exact Or.inr rfl)) (fun _ _ _ _ _ => tpts_nil) (fun _ _ _ _ _ => tpe_calls C_law_thing_a (hr.mono (by decide)) (by rfl) (tpa_v 0 (tpa_f (tpe_bin o_sub (tpe_v 1) (tpe_int)) (tpa_nil)))))))) (tpss_nil))
      (tpss_cons (tps_set (i := 3) nd rfl (Or.inl rfl) (tpe_lst (tpl_cons (tpe_str) (tpl_cons (tpe_str) (tpl_cons (tpe_str) (tpl_cons (tpe_str) (tpl_cons (tpe_str) (tpl_cons (tpe_str) (tpl_cons (tpe_non) (tpl_cons (tpe_bl) (tpl_cons (tpe_bl) (tpl_cons (tpe_calls C_law_next_a (hr.mono (by decide)) (by rfl) (tpa_v 0 (tpa_f (tpe_int) (tpa_nil)))) (tpl_cons (tpe_neg (tpe_int)) (tpl_cons (tpe_dict0) (tpl_nil)))))))))))))))
      (tpss_cons (tps_set (i := 3) nd rfl (Or.inl rfl) (tpe_bin o_add (tpe_v 3) (tpe_lst (tpl_cons (tpe_calls C_law_steps_a (hr.mono (by decide)) (by rfl) (tpa_v 0 (tpa_nil))) (tpl_cons (tpe_ct1 c_list (by rfl) Z.b_list (by decide +kernel) (tpe_calls C_law_steps_a (hr.mono (by decide)) (by rfl) (tpa_v 0 (tpa_nil)))) (tpl_cons (tpe_bin o_pow (tpe_int) (tpe_int)) (tpl_cons (tpe_str) (tpl_cons (tpe_dg) (tpl_cons (tpe_tup (tpl_cons (tpe_int) (tpl_cons (tpe_int) (tpl_nil)))) (tpl_nil))))))))))
      (tpss_one (tps_ret (tpe_ix hr.units (tpe_v 3) (tpe_calls C_law_next_a (hr.mono (by decide)) (by rfl) (tpa_v 0 (tpa_f (tpe_c1 c_len (by rfl) Z.b_len (by decide +kernel) (tpe_v 3)) (tpa_nil)))) (fun _ _ => rfl))))))))
theorem fn_law_thing_a1 (Fn : Fun K "_law_thing" "_law_thing" s_law_thing_a f fd) (Z : Bi K mg cls) (C_law_next_a : TL.Cal P w K mg base CX0 cls "_law_next" ["pool", "base"] 1 sp_law_next_a) (C_law_steps_a : TL.Cal P w K mg base CX0 cls "_law_steps" ["pool"] 2 sp_law_steps_a) (C_law_thing_a : TL.Cal P w K mg base CX0 cls "_law_thing" ["pool", "deep"] 3 (sp_thing 1)) : FnOk P w K mg base CX0 4 f fd ["pool", "deep"] (liftSp K cls (sp_thing (1 + 1))) := by
  have nd := sc_law_thing_a.nd
  refine def0 (N := N_law_thing_a) (ps := ["pool", "deep"]) (k := 3) (t := rd_law_thing_a (sp_thing 1)) Fn sc_law_thing_a (ln_law_thing_a (1 + 1)) (fun cdv A outer s H E B hr => ?_) (fun as PR PX h => ok_law_thing_a 1 as PR PX h)
  have hu65 := Room.units65 hr
  exact tpss_cons (tps_set (i := 2) nd rfl (Or.inl rfl) (tpe_calls C_law_next_a (hr.mono (by decide)) (by rfl) (tpa_v 0 (tpa_f (tpe_int) (tpa_nil)))))
      (tpss_cons (tps_if ((tpw_and (tpt_cmp (o_eq hr.units) (tpe_v 2) (tpe_int) (nomark _)) (tpw_and1 (tpt_cmp o_gt (tpe_v 1) (tpe_int) (nomark _)))).pt) (tpss_one (tps_ret (tpe_lc (own := [("turn", 4)]) rfl nd (tpi_rng1 (by rfl) Z.b_range (tpl_cons (tpe_calls C_law_next_a (hr.mono (by decide)) (by rfl) (tpa_v 0 (tpa_f (tpe_int) (tpa_nil)))) (tpl_nil))) (blkOk_by (own := [("turn", 4)]) (N := N_law_thing_a) (sc := defScope s_law_thing_a) (by decide +kernel)) (by decide) (fun _ _ _ _ _ => tpg_n (i := 4) nd rfl (by first | exact Or.inl rfl | exact Or.inr rfl)) (fun _ _ _ _ _ => tpts_nil) (fun _ _ _ _ _ => tpe_calls C_law_thing_a (hr.mono (by decide)) (by rfl) (tpa_v 0 (tpa_f (tpe_bin o_sub (tpe_v 1) (tpe_int)) (tpa_nil))))))) (tpss_nil))
      (tpss_cons (tps_if ((tpw_and (tpt_cmp o_lt (tpe_v 2) (tpe_int) (nomark _)) (tpw_and1 (tpt_cmp o_gt (tpe_v 1) (tpe_int) (nomark _)))).pt) (tpss_one (tps_ret (tpe_ct1 c_tuple (by rfl) Z.b_tuple (by decide +kernel) (tpe_lc (own := [("turn", 4)]) rfl nd (tpi_rng1 (by rfl) Z.b_range (tpl_cons (tpe_calls C_law_next_a (hr.mono (by decide)) (by rfl) (tpa_v 0 (tpa_f (tpe_int) (tpa_nil)))) (tpl_nil))) (blkOk_by (own := [("turn", 4)]) (N := N_law_thing_a) (sc := defScope s_law_thing_a) (by decide +kernel)) (by decide) (fun _ _ _ _ _ => tpg_n (i := 4) nd rfl (by first | exact Or.inl rfl | exact Or.inr rfl)) (fun _ _ _ _ _ => tpts_nil) (fun _ _ _ _ _ => tpe_calls C_law_thing_a (hr.mono (by decide)) (by rfl) (tpa_v 0 (tpa_f (tpe_bin o_sub (tpe_v 1) (tpe_int)) (tpa_nil)))))))) (tpss_nil))
      (tpss_cons (tps_set (i := 3) nd rfl (Or.inl rfl) (tpe_lst (tpl_cons (tpe_str) (tpl_cons (tpe_str) (tpl_cons (tpe_str) (tpl_cons (tpe_str) (tpl_cons (tpe_str) (tpl_cons (tpe_str) (tpl_cons (tpe_non) (tpl_cons (tpe_bl) (tpl_cons (tpe_bl) (tpl_cons (tpe_calls C_law_next_a (hr.mono (by decide)) (by rfl) (tpa_v 0 (tpa_f (tpe_int) (tpa_nil)))) (tpl_cons (tpe_neg (tpe_int)) (tpl_cons (tpe_dict0) (tpl_nil)))))))))))))))
      (tpss_cons (tps_set (i := 3) nd rfl (Or.inl rfl) (tpe_bin o_add (tpe_v 3) (tpe_lst (tpl_cons (tpe_calls C_law_steps_a (hr.mono (by decide)) (by rfl) (tpa_v 0 (tpa_nil))) (tpl_cons (tpe_ct1 c_list (by rfl) Z.b_list (by decide +kernel) (tpe_calls C_law_steps_a (hr.mono (by decide)) (by rfl) (tpa_v 0 (tpa_nil)))) (tpl_cons (tpe_bin o_pow (tpe_int) (tpe_int)) (tpl_cons (tpe_str) (tpl_cons (tpe_dg) (tpl_cons (tpe_tup (tpl_cons (tpe_int) (tpl_cons (tpe_int) (tpl_nil)))) (tpl_nil))))))))))
      (tpss_one (tps_ret (tpe_ix hr.units (tpe_v 3) (tpe_calls C_law_next_a (hr.mono (by decide)) (by rfl) (tpa_v 0 (tpa_f (tpe_c1 c_len (by rfl) Z.b_len (by decide +kernel) (tpe_v 3)) (tpa_nil)))) (fun _ _ => rfl))))))))
theorem fn_law_thing_a2 (Fn : Fun K "_law_thing" "_law_thing" s_law_thing_a f fd) (Z : Bi K mg cls) (C_law_next_a : TL.Cal P w K mg base CX0 cls "_law_next" ["pool", "base"] 1 sp_law_next_a) (C_law_steps_a : TL.Cal P w K mg base CX0 cls "_law_steps" ["pool"] 2 sp_law_steps_a) (C_law_thing_a : TL.Cal P w K mg base CX0 cls "_law_thing" ["pool", "deep"] 4 (sp_thing 2)) : FnOk P w K mg base CX0 5 f fd ["pool", "deep"] (liftSp K cls (sp_thing (2 + 1))) := by
  have nd := sc_law_thing_a.nd
  refine def0 (N := N_law_thing_a) (ps := ["pool", "deep"]) (k := 4) (t := rd_law_thing_a (sp_thing 2)) Fn sc_law_thing_a (ln_law_thing_a (2 + 1)) (fun cdv A outer s H E B hr => ?_) (fun as PR PX h => ok_law_thing_a 2 as PR PX h)
  have hu65 := Room.units65 hr
  exact tpss_cons (tps_set (i := 2) nd rfl (Or.inl rfl) (tpe_calls C_law_next_a (hr.mono (by decide)) (by rfl) (tpa_v 0 (tpa_f (tpe_int) (tpa_nil)))))
      (tpss_cons (tps_if ((tpw_and (tpt_cmp (o_eq hr.units) (tpe_v 2) (tpe_int) (nomark _)) (tpw_and1 (tpt_cmp o_gt (tpe_v 1) (tpe_int) (nomark _)))).pt) (tpss_one (tps_ret (tpe_lc (own := [("turn", 4)]) rfl nd (tpi_rng1 (by rfl) Z.b_range (tpl_cons (tpe_calls C_law_next_a (hr.mono (by decide)) (by rfl) (tpa_v 0 (tpa_f (tpe_int) (tpa_nil)))) (tpl_nil))) (blkOk_by (own := [("turn", 4)]) (N := N_law_thing_a) (sc := defScope s_law_thing_a) (by decide +kernel)) (by decide) (fun _ _ _ _ _ => tpg_n (i := 4) nd rfl (by first | exact Or.inl rfl | exact Or.inr rfl)) (fun _ _ _ _ _ => tpts_nil) (fun _ _ _ _ _ => tpe_calls C_law_thing_a (hr.mono (by decide)) (by rfl) (tpa_v 0 (tpa_f (tpe_bin o_sub (tpe_v 1) (tpe_int)) (tpa_nil))))))) (tpss_nil))
      (tpss_cons (tps_if ((tpw_and (tpt_cmp o_lt (tpe_v 2) (tpe_int) (nomark _)) (tpw_and1 (tpt_cmp o_gt (tpe_v 1) (tpe_int) (nomark _)))).pt) (tpss_one (tps_ret (tpe_ct1 c_tuple (by rfl) Z.b_tuple (by decide +kernel) (tpe_lc (own := [("turn", 4)]) rfl nd (tpi_rng1 (by rfl) Z.b_range (tpl_cons (tpe_calls C_law_next_a (hr.mono (by decide)) (by rfl) (tpa_v 0 (tpa_f (tpe_int) (tpa_nil)))) (tpl_nil))) (blkOk_by (own := [("turn", 4)]) (N := N_law_thing_a) (sc := defScope s_law_thing_a) (by decide +kernel)) (by decide) (fun _ _ _ _ _ => tpg_n (i := 4) nd rfl (by first | exact Or.inl rfl | exact Or.inr rfl)) (fun _ _ _ _ _ => tpts_nil) (fun _ _ _ _ _ => tpe_calls C_law_thing_a (hr.mono (by decide)) (by rfl) (tpa_v 0 (tpa_f (tpe_bin o_sub (tpe_v 1) (tpe_int)) (tpa_nil)))))))) (tpss_nil))
      (tpss_cons (tps_set (i := 3) nd rfl (Or.inl rfl) (tpe_lst (tpl_cons (tpe_str) (tpl_cons (tpe_str) (tpl_cons (tpe_str) (tpl_cons (tpe_str) (tpl_cons (tpe_str) (tpl_cons (tpe_str) (tpl_cons (tpe_non) (tpl_cons (tpe_bl) (tpl_cons (tpe_bl) (tpl_cons (tpe_calls C_law_next_a (hr.mono (by decide)) (by rfl) (tpa_v 0 (tpa_f (tpe_int) (tpa_nil)))) (tpl_cons (tpe_neg (tpe_int)) (tpl_cons (tpe_dict0) (tpl_nil)))))))))))))))
      (tpss_cons (tps_set (i := 3) nd rfl (Or.inl rfl) (tpe_bin o_add (tpe_v 3) (tpe_lst (tpl_cons (tpe_calls C_law_steps_a (hr.mono (by decide)) (by rfl) (tpa_v 0 (tpa_nil))) (tpl_cons (tpe_ct1 c_list (by rfl) Z.b_list (by decide +kernel) (tpe_calls C_law_steps_a (hr.mono (by decide)) (by rfl) (tpa_v 0 (tpa_nil)))) (tpl_cons (tpe_bin o_pow (tpe_int) (tpe_int)) (tpl_cons (tpe_str) (tpl_cons (tpe_dg) (tpl_cons (tpe_tup (tpl_cons (tpe_int) (tpl_cons (tpe_int) (tpl_nil)))) (tpl_nil))))))))))
      (tpss_one (tps_ret (tpe_ix hr.units (tpe_v 3) (tpe_calls C_law_next_a (hr.mono (by decide)) (by rfl) (tpa_v 0 (tpa_f (tpe_c1 c_len (by rfl) Z.b_len (by decide +kernel) (tpe_v 3)) (tpa_nil)))) (fun _ _ => rfl))))))))
theorem fn_law_thing_a3 (Fn : Fun K "_law_thing" "_law_thing" s_law_thing_a f fd) (Z : Bi K mg cls) (C_law_next_a : TL.Cal P w K mg base CX0 cls "_law_next" ["pool", "base"] 1 sp_law_next_a) (C_law_steps_a : TL.Cal P w K mg base CX0 cls "_law_steps" ["pool"] 2 sp_law_steps_a) (C_law_thing_a : TL.Cal P w K mg base CX0 cls "_law_thing" ["pool", "deep"] 5 (sp_thing 3)) : FnOk P w K mg base CX0 6 f fd ["pool", "deep"] (liftSp K cls (sp_thing (3 + 1))) := by
  have nd := sc_law_thing_a.nd
  refine def0 (N := N_law_thing_a) (ps := ["pool", "deep"]) (k := 5) (t := rd_law_thing_a (sp_thing 3)) Fn sc_law_thing_a (ln_law_thing_a (3 + 1)) (fun cdv A outer s H E B hr => ?_) (fun as PR PX h => ok_law_thing_a 3 as PR PX h)
  have hu65 := Room.units65 hr
  exact tpss_cons (tps_set (i := 2) nd rfl (Or.inl rfl) (tpe_calls C_law_next_a (hr.mono (by decide)) (by rfl) (tpa_v 0 (tpa_f (tpe_int) (tpa_nil)))))
      (tpss_cons (tps_if ((tpw_and (tpt_cmp (o_eq hr.units) (tpe_v 2) (tpe_int) (nomark _)) (tpw_and1 (tpt_cmp o_gt (tpe_v 1) (tpe_int) (nomark _)))).pt) (tpss_one (tps_ret (tpe_lc (own := [("turn", 4)]) rfl nd (tpi_rng1 (by rfl) Z.b_range (tpl_cons (tpe_calls C_law_next_a (hr.mono (by decide)) (by rfl) (tpa_v 0 (tpa_f (tpe_int) (tpa_nil)))) (tpl_nil))) (blkOk_by (own := [("turn", 4)]) (N := N_law_thing_a) (sc := defScope s_law_thing_a) (by decide +kernel)) (by decide) (fun _ _ _ _ _ => tpg_n (i := 4) nd rfl (by first | exact Or.inl rfl | exact Or.inr rfl)) (fun _ _ _ _ _ => tpts_nil) (fun _ _ _ _ _ => tpe_calls C_law_thing_a (hr.mono (by decide)) (by rfl) (tpa_v 0 (tpa_f (tpe_bin o_sub (tpe_v 1) (tpe_int)) (tpa_nil))))))) (tpss_nil))
      (tpss_cons (tps_if ((tpw_and (tpt_cmp o_lt (tpe_v 2) (tpe_int) (nomark _)) (tpw_and1 (tpt_cmp o_gt (tpe_v 1) (tpe_int) (nomark _)))).pt) (tpss_one (tps_ret (tpe_ct1 c_tuple (by rfl) Z.b_tuple (by decide +kernel) (tpe_lc (own := [("turn", 4)]) rfl nd (tpi_rng1 (by rfl) Z.b_range (tpl_cons (tpe_calls C_law_next_a (hr.mono (by decide)) (by rfl) (tpa_v 0 (tpa_f (tpe_int) (tpa_nil)))) (tpl_nil))) (blkOk_by (own := [("turn", 4)]) (N := N_law_thing_a) (sc := defScope s_law_thing_a) (by decide +kernel)) (by decide) (fun _ _ _ _ _ => tpg_n (i := 4) nd rfl (by first | exact Or.inl rfl | exact Or.inr rfl)) (fun _ _ _ _ _ => tpts_nil) (fun _ _ _ _ _ => tpe_calls C_law_thing_a (hr.mono (by decide)) (by rfl) (tpa_v 0 (tpa_f (tpe_bin o_sub (tpe_v 1) (tpe_int)) (tpa_nil)))))))) (tpss_nil))
      (tpss_cons (tps_set (i := 3) nd rfl (Or.inl rfl) (tpe_lst (tpl_cons (tpe_str) (tpl_cons (tpe_str) (tpl_cons (tpe_str) (tpl_cons (tpe_str) (tpl_cons (tpe_str) (tpl_cons (tpe_str) (tpl_cons (tpe_non) (tpl_cons (tpe_bl) (tpl_cons (tpe_bl) (tpl_cons (tpe_calls C_law_next_a (hr.mono (by decide)) (by rfl) (tpa_v 0 (tpa_f (tpe_int) (tpa_nil)))) (tpl_cons (tpe_neg (tpe_int)) (tpl_cons (tpe_dict0) (tpl_nil)))))))))))))))
      (tpss_cons (tps_set (i := 3) nd rfl (Or.inl rfl) (tpe_bin o_add (tpe_v 3) (tpe_lst (tpl_cons (tpe_calls C_law_steps_a (hr.mono (by decide)) (by rfl) (tpa_v 0 (tpa_nil))) (tpl_cons (tpe_ct1 c_list (by rfl) Z.b_list (by decide +kernel) (tpe_calls C_law_steps_a (hr.mono (by decide)) (by rfl) (tpa_v 0 (tpa_nil)))) (tpl_cons (tpe_bin o_pow (tpe_int) (tpe_int)) (tpl_cons (tpe_str) (tpl_cons (tpe_dg) (tpl_cons (tpe_tup (tpl_cons (tpe_int) (tpl_cons (tpe_int) (tpl_nil)))) (tpl_nil))))))))))
      (tpss_one (tps_ret (tpe_ix hr.units (tpe_v 3) (tpe_calls C_law_next_a (hr.mono (by decide)) (by rfl) (tpa_v 0 (tpa_f (tpe_c1 c_len (by rfl) Z.b_len (by decide +kernel) (tpe_v 3)) (tpa_nil)))) (fun _ _ => rfl))))))))
theorem fn_law_bent_a (Fn : Fun K "_law_bent" "_law_bent" s_law_bent_a f fd) (Z : Bi K mg cls) (C_law_next_a : TL.Cal P w K mg base CX0 cls "_law_next" ["pool", "base"] 1 sp_law_next_a) (C_law_thing_a : TL.Cal P w K mg base CX0 cls "_law_thing" ["pool", "deep"] 6 sp_law_thing_a) : FnOk P w K mg base CX0 7 f fd ["pool", "rule"] (liftSp K cls sp_law_bent_a) := by
  have nd := sc_law_bent_a.nd
  refine def0 (N := N_law_bent_a) (ps := ["pool", "rule"]) (k := 6) (t := rd_law_bent_a) Fn sc_law_bent_a ln_law_bent_a (fun cdv A outer s H E B hr => ?_) (fun as PR PX h => ok_law_bent_a as PR PX h)
  have hu65 := Room.units65 hr
  exact tpss_cons (tps_set (i := 2) nd rfl (Or.inl rfl) (tpe_ct1 c_list (by rfl) Z.b_list (by decide +kernel) (tpe_v 1)))
      (tpss_cons (tps_set (i := 3) nd rfl (Or.inl rfl) (tpe_calls C_law_next_a (hr.mono (by decide)) (by rfl) (tpa_v 0 (tpa_f (tpe_int) (tpa_nil)))))
      (tpss_cons (tps_if (tpt_cmp (o_eq hr.units) (tpe_v 3) (tpe_int) (nomark _)) (tpss_one (tps_ret (tpe_ct1 c_tuple (by rfl) Z.b_tuple (by decide +kernel) (tpe_bin o_add (tpe_v 2) (tpe_lst (tpl_cons (tpe_calls C_law_thing_a (hr.mono (by decide)) (by rfl) (tpa_v 0 (tpa_f (tpe_int) (tpa_nil)))) (tpl_nil))))))) (tpss_nil))
      (tpss_cons (tps_if (tpt_cmp (o_eq hr.units) (tpe_v 3) (tpe_int) (nomark _)) (tpss_one (tps_ret (tpe_v 2))) (tpss_nil))
      (tpss_cons (tps_if ((tpw_or (tpt_cmp (o_eq hr.units) (tpe_v 3) (tpe_int) (nomark _)) (tpw_or1 (tpt_cmp (o_eq hr.units) (tpe_c1 c_len (by rfl) Z.b_len (by decide +kernel) (tpe_v 2)) (tpe_int) (nomark _)))).pt) (tpss_cons (tps_setIx (i := 2) hr.units rfl (by first | exact Or.inl rfl | exact Or.inr (Or.inl rfl) | exact Or.inr (Or.inr rfl)) (tpe_ix hr.units (tpe_lst (tpl_cons (tpe_str) (tpl_cons (tpe_str) (tpl_cons (tpe_str) (tpl_cons (tpe_str) (tpl_cons (tpe_str) (tpl_cons (tpe_bin o_add (tpe_ix hr.units (tpe_v 1) (tpe_int) (fun _ _ => rfl)) (tpe_str)) (tpl_cons (tpe_sl (tpe_ix hr.units (tpe_v 1) (tpe_int) (fun _ _ => rfl)) (tpo_n) (tpo_s (tpe_neg (tpe_int)))) (tpl_cons (tpe_str) (tpl_cons (tpe_non) (tpl_nil))))))))))) (tpe_calls C_law_next_a (hr.mono (by decide)) (by rfl) (tpa_v 0 (tpa_f (tpe_int) (tpa_nil)))) (fun _ _ => rfl)) (tpe_int))
      (tpss_one (tps_ret (tpe_ct1 c_tuple (by rfl) Z.b_tuple (by decide +kernel) (tpe_v 2))))) (tpss_nil))
      (tpss_cons (tps_set (i := 4) nd rfl (Or.inl rfl) (tpe_ct1 c_list (by rfl) Z.b_list (by decide +kernel) (tpe_ix hr.units (tpe_v 2) (tpe_int) (fun _ _ => rfl))))
      (tpss_cons (tps_set (i := 5) nd rfl (Or.inl rfl) (tpe_calls C_law_next_a (hr.mono (by decide)) (by rfl) (tpa_v 0 (tpa_f (tpe_c1 c_len (by rfl) Z.b_len (by decide +kernel) (tpe_v 4)) (tpa_nil)))))
      (tpss_cons (tps_if (tpt_cmp (o_eq hr.units) (tpe_v 3) (tpe_int) (nomark _)) (tpss_one (tps_setIx (i := 4) hr.units rfl (by first | exact Or.inl rfl | exact Or.inr (Or.inl rfl) | exact Or.inr (Or.inr rfl)) (tpe_ix hr.units (tpe_lst (tpl_cons (tpe_int) (tpl_cons (tpe_int) (tpl_cons (tpe_neg (tpe_int)) (tpl_cons (tpe_bl) (tpl_cons (tpe_non) (tpl_cons (tpe_str) (tpl_cons (tpe_tup (tpl_cons (tpe_int) (tpl_nil))) (tpl_cons (tpe_bin o_add (tpe_ix hr.units (tpe_v 4) (tpe_v 5) (fun _ _ => rfl)) (tpe_int)) (tpl_cons (tpe_bin o_sub (tpe_ix hr.units (tpe_v 4) (tpe_v 5) (fun _ _ => rfl)) (tpe_int)) (tpl_cons (tpe_int) (tpl_nil)))))))))))) (tpe_calls C_law_next_a (hr.mono (by decide)) (by rfl) (tpa_v 0 (tpa_f (tpe_int) (tpa_nil)))) (fun _ _ => rfl)) (tpe_v 5))) (tpss_one (tps_if (tpt_cmp (o_eq hr.units) (tpe_v 3) (tpe_int) (nomark _)) (tpss_one (tps_expr (tpe_mutL (i := 4) m_insertA PySem.F.slot_list_insert PySem.F.type_list_insert rfl (by first | exact Or.inl rfl | exact Or.inr (Or.inl rfl) | exact Or.inr (Or.inr rfl)) (tpl_cons (tpe_calls C_law_next_a (hr.mono (by decide)) (by rfl) (tpa_v 0 (tpa_f (tpe_bin o_add (tpe_c1 c_len (by rfl) Z.b_len (by decide +kernel) (tpe_v 4)) (tpe_int)) (tpa_nil)))) (tpl_cons (tpe_bin o_add (tpe_int) (tpe_calls C_law_next_a (hr.mono (by decide)) (by rfl) (tpa_v 0 (tpa_f (tpe_int) (tpa_nil))))) (tpl_nil)))))) (tpss_one (tps_expr (tpe_mutL (i := 4) m_popAt PySem.F.slot_list_pop PySem.F.type_list_pop rfl (by first | exact Or.inl rfl | exact Or.inr (Or.inl rfl) | exact Or.inr (Or.inr rfl)) (tpl_cons (tpe_v 5) (tpl_nil))))))))
      (tpss_one (tps_ret (tpe_tup (tpl_cons (tpe_str) (tpl_cons (tpe_ix hr.units (tpe_lst (tpl_cons (tpe_ct1 c_tuple (by rfl) Z.b_tuple (by decide +kernel) (tpe_v 4)) (tpl_cons (tpe_v 4) (tpl_nil)))) (tpe_ct1 c_int (by rfl) Z.b_int (by decide +kernel) (tpe_cmp (o_eq hr.units) (tpe_calls C_law_next_a (hr.mono (by decide)) (by rfl) (tpa_v 0 (tpa_f (tpe_int) (tpa_nil)))) (tpe_int) (nomark _))) (fun _ _ => rfl)) (tpl_nil)))))))))))))
theorem fn_is_whole_a (Fn : Fun K "is_whole" "is_whole" s_is_whole_a f fd) (Z : Bi K mg cls) : FnOk P w K mg base CX0 1 f fd ["thing"] (liftSp K cls sp_is_whole_a) := by
  have nd := sc_is_whole_a.nd
  refine def0 (N := N_is_whole_a) (ps := ["thing"]) (k := 0) (t := rd_is_whole_a) Fn sc_is_whole_a ln_is_whole_a (fun cdv A outer s H E B hr => ?_) (fun as PR PX h => ok_is_whole_a as PR PX h)
  have hu65 := Room.units65 hr
  exact tpss_one (tps_ret (tpe_and (tpe_isi (by rfl) Z.b_isinstance (by rfl) Z.b_int (by decide +kernel) (tpe_v 0)) (tpe_one (tpe_not (tpe_isi (by rfl) Z.b_isinstance (by rfl) Z.b_bool (by decide +kernel) (tpe_v 0))))))
theorem fn_is_rising_a (Fn : Fun K "is_rising" "is_rising" s_is_rising_a f fd) (Z : Bi K mg cls) (C_is_whole_a : TL.Cal P w K mg base CX0 cls "is_whole" ["thing"] 1 sp_is_whole_a) : FnOk P w K mg base CX0 2 f fd ["thing"] (liftSp K cls sp_is_rising_a) := by
  have nd := sc_is_rising_a.nd
  refine def0 (N := N_is_rising_a) (ps := ["thing"]) (k := 1) (t := rd_is_rising_a) Fn sc_is_rising_a ln_is_rising_a (fun cdv A outer s H E B hr => ?_) (fun as PR PX h => ok_is_rising_a as PR PX h)
  have hu65 := Room.units65 hr
  exact tpss_cons (tps_if ((tpw_or (tpt_not (tpt_val (tpe_isi (by rfl) Z.b_isinstance (by rfl) Z.b_tuple (by decide +kernel) (tpe_v 0)))) (tpw_or1 (tpt_not (tpt_val (tpe_c1 (c_all rfl) (by rfl) Z.b_all (by decide +kernel) (tpe_lc (own := [("number", 3)]) rfl nd (tpi_seq (tpx_l 0)) (blkOk_by (own := [("number", 3)]) (N := N_is_rising_a) (sc := defScope s_is_rising_a) (by decide +kernel)) (by decide) (fun _ _ _ _ _ => tpg_n (i := 3) nd rfl (by first | exact Or.inl rfl | exact Or.inr rfl)) (fun _ _ _ _ _ => tpts_nil) (fun _ _ _ _ _ => tpe_calls C_is_whole_a (hr.mono (by decide)) (by rfl) (tpa_f (tpe_v 3) (tpa_nil))))))))).pt) (tpss_one (tps_ret (tpe_bl))) (tpss_nil))
      (tpss_one (tps_ret (tpe_c1 (c_all rfl) (by rfl) Z.b_all (by decide +kernel) (tpe_lc (own := [("one", 1), ("other", 2)]) rfl nd (tpi_zp (by rfl) Z.b_zip (tpl_cons (tpe_v 0) (tpl_cons (tpe_sl (tpe_v 0) (tpo_s (tpe_int)) (tpo_n)) (tpl_nil)))) (blkOk_by (own := [("one", 1), ("other", 2)]) (N := N_is_rising_a) (sc := defScope s_is_rising_a) (by decide +kernel)) (by decide) (fun _ _ _ _ _ => tpg_tup rfl (tpgs_cons (tpg_n (i := 1) nd rfl (by first | exact Or.inl rfl | exact Or.inr rfl)) (tpgs_cons (tpg_n (i := 2) nd rfl (by first | exact Or.inl rfl | exact Or.inr rfl)) (tpgs_nil)))) (fun _ _ _ _ _ => tpts_nil) (fun _ _ _ _ _ => tpe_cmp o_lt (tpe_v 1) (tpe_v 2) (nomark _))))))
theorem fn_is_steps_a (Fn : Fun K "is_steps" "is_steps" s_is_steps_a f fd) (Z : Bi K mg cls) (C_is_rising_a : TL.Cal P w K mg base CX0 cls "is_rising" ["thing"] 2 sp_is_rising_a) : FnOk P w K mg base CX0 3 f fd ["thing"] (liftSp K cls sp_is_steps_a) := by
  have nd := sc_is_steps_a.nd
  refine def0 (N := N_is_steps_a) (ps := ["thing"]) (k := 2) (t := rd_is_steps_a) Fn sc_is_steps_a ln_is_steps_a (fun cdv A outer s H E B hr => ?_) (fun as PR PX h => ok_is_steps_a as PR PX h)
  have hu65 := Room.units65 hr
  exact tpss_cons (tps_if ((tpw_or (tpt_not (tpt_val (tpe_calls C_is_rising_a (hr.mono (by decide)) (by rfl) (tpa_f (tpe_v 0) (tpa_nil))))) (tpw_or1 (tpt_not (tpt_chn o_le o_le (tpe_int) (tpe_c1 c_len (by rfl) Z.b_len (by decide +kernel) (tpe_v 0)) (tpe_const (by rfl) Z.g_MOST_STEPS))))).pt) (tpss_one (tps_ret (tpe_bl))) (tpss_nil))
      (tpss_one (tps_ret (tpe_and (tpe_cmp o_le (tpe_int) (tpe_ix hr.units (tpe_v 0) (tpe_int) (fun _ _ => rfl)) (nomark _)) (tpe_one (tpe_cmp o_le (tpe_ix hr.units (tpe_v 0) (tpe_neg (tpe_int)) (fun _ _ => rfl)) (tpe_const (by rfl) Z.g_MOST_STEP) (nomark _))))))
theorem fn_is_rule_a (Fn : Fun K "is_rule" "is_rule" s_is_rule_a f fd) (Z : Bi K mg cls) (C_is_steps_a : TL.Cal P w K mg base CX0 cls "is_steps" ["thing"] 3 sp_is_steps_a) : FnOk P w K mg base CX0 4 f fd ["thing"] (liftSp K cls sp_is_rule_a) := by
  have nd := sc_is_rule_a.nd
  refine def0 (N := N_is_rule_a) (ps := ["thing"]) (k := 3) (t := rd_is_rule_a) Fn sc_is_rule_a ln_is_rule_a (fun cdv A outer s H E B hr => ?_) (fun as PR PX h => ok_is_rule_a as PR PX h)
  have hu65 := Room.units65 hr
  exact tpss_cons (tps_if (tpt_not (tpt_val (tpe_isi (by rfl) Z.b_isinstance (by rfl) Z.b_tuple (by decide +kernel) (tpe_v 0)))) (tpss_one (tps_ret (tpe_bl))) (tpss_nil))
      (tpss_cons (tps_if (tpt_cmp (o_eq hr.units) (tpe_c1 c_len (by rfl) Z.b_len (by decide +kernel) (tpe_v 0)) (tpe_int) (nomark _)) (tpss_one (tps_ret (tpe_and (tpe_isi (by rfl) Z.b_isinstance (by rfl) Z.b_str (by decide +kernel) (tpe_ix hr.units (tpe_v 0) (tpe_int) (fun _ _ => rfl))) (tpe_and (tpe_cmp (o_eq hr.units) (tpe_ix hr.units (tpe_v 0) (tpe_int) (fun _ _ => rfl)) (tpe_str) (nomark _)) (tpe_one (tpe_calls C_is_steps_a (hr.mono (by decide)) (by rfl) (tpa_f (tpe_ix hr.units (tpe_v 0) (tpe_int) (fun _ _ => rfl)) (tpa_nil)))))))) (tpss_nil))
      (tpss_one (tps_ret (tpe_and (tpe_cmp (o_eq hr.units) (tpe_c1 c_len (by rfl) Z.b_len (by decide +kernel) (tpe_v 0)) (tpe_int) (nomark _)) (tpe_and (tpe_isi (by rfl) Z.b_isinstance (by rfl) Z.b_str (by decide +kernel) (tpe_ix hr.units (tpe_v 0) (tpe_int) (fun _ _ => rfl))) (tpe_one (tpe_cmp (o_in hu65) (tpe_v 0) (tpe_const (by rfl) Z.g_PLAIN) (by rfl))))))))
theorem fn_law_is_number_a (Fn : Fun K "_law_is_number" "_law_is_number" s_law_is_number_a f fd) (Z : Bi K mg cls) : FnOk P w K mg base CX0 1 f fd ["thing"] (liftSp K cls sp_law_is_number_a) := by
  have nd := sc_law_is_number_a.nd
  refine def0 (N := N_law_is_number_a) (ps := ["thing"]) (k := 0) (t := rd_law_is_number_a) Fn sc_law_is_number_a ln_law_is_number_a (fun cdv A outer s H E B hr => ?_) (fun as PR PX h => ok_law_is_number_a as PR PX h)
  have hu65 := Room.units65 hr
  exact tpss_one (tps_ret (tpe_and (tpe_isi (by rfl) Z.b_isinstance (by rfl) Z.b_int (by decide +kernel) (tpe_v 0)) (tpe_one (tpe_not (tpe_isi (by rfl) Z.b_isinstance (by rfl) Z.b_bool (by decide +kernel) (tpe_v 0))))))
theorem fn_law_due_a (Fn : Fun K "_law_due" "_law_due" s_law_due_a f fd) (Z : Bi K mg cls) (C_law_is_number_a : TL.Cal P w K mg base CX0 cls "_law_is_number" ["thing"] 1 sp_law_is_number_a) : FnOk P w K mg base CX0 2 f fd ["thing"] (liftSp K cls sp_law_due_a) := by
  have nd := sc_law_due_a.nd
  refine def0 (N := N_law_due_a) (ps := ["thing"]) (k := 1) (t := rd_law_due_a) Fn sc_law_due_a ln_law_due_a (fun cdv A outer s H E B hr => ?_) (fun as PR PX h => ok_law_due_a as PR PX h)
  have hu65 := Room.units65 hr
  exact tpss_cons (tps_if ((tpw_or (tpt_not (tpt_val (tpe_isi (by rfl) Z.b_isinstance (by rfl) Z.b_tuple (by decide +kernel) (tpe_v 0)))) (tpw_or (tpt_cmp (o_notin hu65) (tpe_c1 c_len (by rfl) Z.b_len (by decide +kernel) (tpe_v 0)) (tpe_lst (tpl_cons (tpe_int) (tpl_cons (tpe_int) (tpl_nil)))) (by rfl)) (tpw_or1 (tpt_not (tpt_val (tpe_isi (by rfl) Z.b_isinstance (by rfl) Z.b_str (by decide +kernel) (tpe_ix hr.units (tpe_v 0) (tpe_int) (fun _ _ => rfl)))))))).pt) (tpss_one (tps_ret (tpe_bl))) (tpss_nil))
      (tpss_cons (tps_if (tpt_cmp (o_eq hr.units) (tpe_c1 c_len (by rfl) Z.b_len (by decide +kernel) (tpe_v 0)) (tpe_int) (nomark _)) (tpss_one (tps_ret (tpe_cmp (o_in hu65) (tpe_ix hr.units (tpe_v 0) (tpe_int) (fun _ _ => rfl)) (tpe_lst (tpl_cons (tpe_str) (tpl_cons (tpe_str) (tpl_cons (tpe_str) (tpl_nil))))) (by rfl)))) (tpss_nil))
      (tpss_cons (tps_set (i := 1) nd rfl (Or.inl rfl) (tpe_ix hr.units (tpe_v 0) (tpe_int) (fun _ _ => rfl)))
      (tpss_cons (tps_if ((tpw_or (tpt_cmp (o_ne hr.units) (tpe_ix hr.units (tpe_v 0) (tpe_int) (fun _ _ => rfl)) (tpe_str) (nomark _)) (tpw_or (tpt_not (tpt_val (tpe_isi (by rfl) Z.b_isinstance (by rfl) Z.b_tuple (by decide +kernel) (tpe_v 1)))) (tpw_or1 (tpt_cmp (o_notin hu65) (tpe_c1 c_len (by rfl) Z.b_len (by decide +kernel) (tpe_v 1)) (tpe_lst (tpl_cons (tpe_int) (tpl_cons (tpe_int) (tpl_cons (tpe_int) (tpl_cons (tpe_int) (tpl_nil)))))) (by rfl))))).pt) (tpss_one (tps_ret (tpe_bl))) (tpss_nil))
      (tpss_cons (tps_if (tpt_not (tpt_val (tpe_c1 (c_all rfl) (by rfl) Z.b_all (by decide +kernel) (tpe_lc (own := [("step", 2)]) rfl nd (tpi_seq (tpx_l 1)) (blkOk_by (own := [("step", 2)]) (N := N_law_due_a) (sc := defScope s_law_due_a) (by decide +kernel)) (by decide) (fun _ _ _ _ _ => tpg_n (i := 2) nd rfl (by first | exact Or.inl rfl | exact Or.inr rfl)) (fun _ _ _ _ _ => tpts_nil) (fun _ _ _ _ _ => tpe_and (tpe_calls C_law_is_number_a (hr.mono (by decide)) (by rfl) (tpa_f (tpe_v 2) (tpa_nil))) (tpe_one (tpe_chain o_lt o_lt (tpe_int) (tpe_v 2) (tpe_int)))))))) (tpss_one (tps_ret (tpe_bl))) (tpss_nil))
      (tpss_one (tps_ret (tpe_cmp (o_eq hr.units) (tpe_ct1 c_list (by rfl) Z.b_list (by decide +kernel) (tpe_v 1)) (tpe_sortSet rfl (by rfl) Z.b_sorted (by rfl) Z.b_set (tpe_v 1)) (nomark _))))))))
theorem fn_law_k01 (Fn : Fun K "law" "law" s_law_k01 f fd) (Z : Bi K mg cls) (C_law_apart_a : TL.Cal P w K mg base CX0 cls "_law_apart" ["text"] 2 sp_law_apart_a) (C_law_bent_a : TL.Cal P w K mg base CX0 cls "_law_bent" ["pool", "rule"] 7 sp_law_bent_a) (C_law_cells_a : TL.Cal P w K mg base CX0 cls "_law_cells" ["script", "least", "most"] 1 sp_law_cells_a) (C_law_dig_a : TL.Cal P w K mg base CX0 cls "_law_dig" ["cell"] 1 sp_law_dig_a) (C_law_due_a : TL.Cal P w K mg base CX0 cls "_law_due" ["thing"] 2 sp_law_due_a) (C_law_is_number_a : TL.Cal P w K mg base CX0 cls "_law_is_number" ["thing"] 1 sp_law_is_number_a) (C_law_rule_a : TL.Cal P w K mg base CX0 cls "_law_rule" ["pool"] 2 sp_law_rule_a) (C_law_steps_a : TL.Cal P w K mg base CX0 cls "_law_steps" ["pool"] 2 sp_law_steps_a) (C_law_thing_a : TL.Cal P w K mg base CX0 cls "_law_thing" ["pool", "deep"] 6 sp_law_thing_a) (C_is_rule_a : TL.Cal P w K mg base CX0 cls "is_rule" ["thing"] 4 sp_is_rule_a) (C_is_whole_a : TL.Cal P w K mg base CX0 cls "is_whole" ["thing"] 1 sp_is_whole_a) : FnOk P w K mg base CX0 8 f fd ["script"] (liftSp K cls sp_law_k01) := by
  have nd := sc_law_k01.nd
  refine def0 (N := N_law_k01) (ps := ["script"]) (k := 7) (t := rd_law_k01) Fn sc_law_k01 ln_law_k01 (fun cdv A outer s H E B hr => ?_) (fun as PR PX h => ok_law_k01 as PR PX h)
  have hu65 := Room.units65 hr
  exact tpss_cons (tps_for PassesOwn.never rfl (tpi_seq (tpx_f (tpe_calls C_law_cells_a (hr.mono (by decide)) (by rfl) (tpa_f (tpe_v 0) (tpa_f (tpe_int) (tpa_f (tpe_int) (tpa_nil))))))) (tpg_n (i := 1) nd rfl (Or.inl rfl)) (tpss_cons (tps_if (tpt_not (tpt_val (tpe_calls C_law_apart_a (hr.mono (by decide)) (by rfl) (tpa_f (tpe_ix hr.units (tpe_lst (tpl_cons (tpe_str) (tpl_cons (tpe_str) (tpl_cons (tpe_str) (tpl_cons (tpe_ct1 c_str (by rfl) Z.b_str (by decide +kernel) (tpe_bin o_mod (tpe_v 1) (tpe_bin o_pow (tpe_int) (tpe_int)))) (tpl_nil)))))) (tpe_bin o_mod (tpe_v 1) (tpe_int)) (fun _ _ => rfl)) (tpa_nil))))) (tpss_one (tps_ret (tpe_bl))) (tpss_nil))
      (tpss_cons (tps_set (i := 2) nd rfl (Or.inl rfl) (tpe_calls C_law_dig_a (hr.mono (by decide)) (by rfl) (tpa_f (tpe_v 1) (tpa_nil))))
      (tpss_cons (tps_set (i := 3) nd rfl (Or.inl rfl) (tpe_calls C_law_rule_a (hr.mono (by decide)) (by rfl) (tpa_v 2 (tpa_nil))))
      (tpss_cons (tps_set (i := 4) nd rfl (Or.inl rfl) (tpe_lst (tpl_cons (tpe_v 3) (tpl_cons (tpe_calls C_law_bent_a (hr.mono (by decide)) (by rfl) (tpa_v 2 (tpa_f (tpe_v 3) (tpa_nil)))) (tpl_cons (tpe_calls C_law_bent_a (hr.mono (by decide)) (by rfl) (tpa_v 2 (tpa_f (tpe_v 3) (tpa_nil)))) (tpl_cons (tpe_calls C_law_bent_a (hr.mono (by decide)) (by rfl) (tpa_v 2 (tpa_f (tpe_v 3) (tpa_nil)))) (tpl_cons (tpe_calls C_law_thing_a (hr.mono (by decide)) (by rfl) (tpa_v 2 (tpa_f (tpe_int) (tpa_nil)))) (tpl_nil))))))))
      (tpss_cons (tps_set (i := 4) nd rfl (Or.inl rfl) (tpe_bin o_add (tpe_v 4) (tpe_lst (tpl_cons (tpe_calls C_law_thing_a (hr.mono (by decide)) (by rfl) (tpa_v 2 (tpa_f (tpe_int) (tpa_nil)))) (tpl_cons (tpe_tup (tpl_cons (tpe_str) (tpl_cons (tpe_calls C_law_steps_a (hr.mono (by decide)) (by rfl) (tpa_v 2 (tpa_nil))) (tpl_nil)))) (tpl_cons (tpe_ix hr.units (tpe_v 3) (tpe_int) (fun _ _ => rfl)) (tpl_cons (tpe_tup (tpl_cons (tpe_v 3) (tpl_nil))) (tpl_cons (tpe_non) (tpl_cons (tpe_tup (tpl_nil)) (tpl_cons (tpe_tup (tpl_cons (tpe_str) (tpl_cons (tpe_tup (tpl_nil)) (tpl_nil)))) (tpl_nil)))))))))))
      (tpss_cons (tps_set (i := 4) nd rfl (Or.inl rfl) (tpe_bin o_add (tpe_v 4) (tpe_lst (tpl_cons (tpe_tup (tpl_cons (tpe_str) (tpl_cons (tpe_tup (tpl_cons (tpe_int) (tpl_cons (tpe_int) (tpl_cons (tpe_int) (tpl_cons (tpe_int) (tpl_cons (tpe_int) (tpl_nil))))))) (tpl_nil)))) (tpl_cons (tpe_tup (tpl_cons (tpe_str) (tpl_cons (tpe_tup (tpl_cons (tpe_int) (tpl_cons (tpe_int) (tpl_nil)))) (tpl_nil)))) (tpl_cons (tpe_tup (tpl_cons (tpe_str) (tpl_cons (tpe_tup (tpl_cons (tpe_int) (tpl_cons (tpe_int) (tpl_nil)))) (tpl_nil)))) (tpl_cons (tpe_tup (tpl_cons (tpe_str) (tpl_cons (tpe_tup (tpl_cons (tpe_int) (tpl_cons (tpe_int) (tpl_nil)))) (tpl_nil)))) (tpl_nil))))))))
      (tpss_cons (tps_set (i := 4) nd rfl (Or.inl rfl) (tpe_bin o_add (tpe_v 4) (tpe_lst (tpl_cons (tpe_tup (tpl_cons (tpe_str) (tpl_cons (tpe_tup (tpl_cons (tpe_int) (tpl_cons (tpe_int) (tpl_nil)))) (tpl_nil)))) (tpl_cons (tpe_tup (tpl_cons (tpe_str) (tpl_cons (tpe_lst (tpl_cons (tpe_int) (tpl_cons (tpe_int) (tpl_nil)))) (tpl_nil)))) (tpl_cons (tpe_tup (tpl_cons (tpe_str) (tpl_cons (tpe_tup (tpl_cons (tpe_int) (tpl_nil))) (tpl_cons (tpe_tup (tpl_cons (tpe_int) (tpl_nil))) (tpl_nil))))) (tpl_cons (tpe_tup (tpl_cons (tpe_str) (tpl_cons (tpe_int) (tpl_nil)))) (tpl_cons (tpe_tup (tpl_cons (tpe_str) (tpl_nil))) (tpl_nil)))))))))
      (tpss_cons (tps_set (i := 4) nd rfl (Or.inl rfl) (tpe_bin o_add (tpe_v 4) (tpe_lst (tpl_cons (tpe_tup (tpl_cons (tpe_str) (tpl_cons (tpe_tup (tpl_nil)) (tpl_nil)))) (tpl_cons (tpe_tup (tpl_cons (tpe_str) (tpl_cons (tpe_tup (tpl_cons (tpe_int) (tpl_nil))) (tpl_nil)))) (tpl_cons (tpe_tup (tpl_cons (tpe_str) (tpl_cons (tpe_non) (tpl_nil)))) (tpl_cons (tpe_tup (tpl_cons (tpe_str) (tpl_cons (tpe_tup (tpl_cons (tpe_bl) (tpl_cons (tpe_int) (tpl_nil)))) (tpl_nil)))) (tpl_cons (tpe_tup (tpl_cons (tpe_str) (tpl_cons (tpe_tup (tpl_cons (tpe_int) (tpl_cons (tpe_int) (tpl_cons (tpe_int) (tpl_cons (tpe_int) (tpl_nil)))))) (tpl_nil)))) (tpl_nil)))))))))
      (tpss_one (tps_for PassesOwn.never rfl (tpi_seq (tpx_l 4)) (tpg_n (i := 5) nd rfl (Or.inl rfl)) (tpss_cons (tps_set (i := 6) nd rfl (Or.inl rfl) (tpe_calls C_is_rule_a (hr.mono (by decide)) (by rfl) (tpa_f (tpe_v 5) (tpa_nil))))
      (tpss_cons (tps_if ((tpw_or (tpt_not (tpt_val (tpe_isi (by rfl) Z.b_isinstance (by rfl) Z.b_bool (by decide +kernel) (tpe_v 6)))) (tpw_or1 (tpt_cmp (o_ne hr.units) (tpe_v 6) (tpe_calls C_law_due_a (hr.mono (by decide)) (by rfl) (tpa_f (tpe_v 5) (tpa_nil))) (nomark _)))).pt) (tpss_one (tps_ret (tpe_bl))) (tpss_nil))
      (tpss_one (tps_for PassesOwn.never rfl (tpi_seq (tpx_f (tpe_lst (tpl_cons (tpe_v 5) (tpl_cons (tpe_int) (tpl_cons (tpe_bl) (tpl_cons (tpe_bl) (tpl_cons (tpe_neg (tpe_int)) (tpl_cons (tpe_bin o_pow (tpe_int) (tpe_int)) (tpl_cons (tpe_non) (tpl_cons (tpe_str) (tpl_cons (tpe_tup (tpl_cons (tpe_int) (tpl_nil))) (tpl_nil))))))))))))) (tpg_n (i := 7) nd rfl (Or.inl rfl)) (tpss_one (tps_if ((tpw_or (tpt_cmp (o_ne hr.units) (tpe_calls C_is_whole_a (hr.mono (by decide)) (by rfl) (tpa_f (tpe_v 7) (tpa_nil))) (tpe_calls C_law_is_number_a (hr.mono (by decide)) (by rfl) (tpa_f (tpe_v 7) (tpa_nil))) (nomark _)) (tpw_or1 (tpt_not (tpt_val (tpe_isi (by rfl) Z.b_isinstance (by rfl) Z.b_bool (by decide +kernel) (tpe_calls C_is_whole_a (hr.mono (by decide)) (by rfl) (tpa_f (tpe_v 7) (tpa_nil)))))))).pt) (tpss_one (tps_ret (tpe_bl))) (tpss_nil))))))))))))))))))
      (tpss_one (tps_ret (tpe_bl)))
end
theorem all_mk {l : PySem.W.OpenLaw} {w : World} {K : PySem.W.Frag} {h : Heap} {mg : Str → Option Value} {fa : Addr} (X : K.In h) (G : h.Ns mainGlobals mg) (hfa : mg "law" = some (.ref fa))
    {f0 : Addr} {od0 an0 : Option Addr} {sl0 : Array (Option Value)} {oc0 kV0 dc0 pm0 cd0 ct0 : Value}
    (a0 : PySem.W.nsIn K mainGlobals "_law_cells" = some (some (.ref f0))) (l0 : K.lookup f0 = some ⟨oc0, od0, .func (PySem.W.fnOf "_law_cells" "_law_cells" (defArgs s_law_cells_a) (defBody s_law_cells_a) (defScope s_law_cells_a) .none kV0 dc0 pm0 an0 cd0 ct0), sl0⟩) (c0 : PySem.W.codeIn K cd0 "_law_cells" = true) (k0 : PySem.W.keepIn K (.ref f0) = true)
    {f1 : Addr} {od1 an1 : Option Addr} {sl1 : Array (Option Value)} {oc1 kV1 dc1 pm1 cd1 ct1 : Value}
    (a1 : PySem.W.nsIn K mainGlobals "_law_dig" = some (some (.ref f1))) (l1 : K.lookup f1 = some ⟨oc1, od1, .func (PySem.W.fnOf "_law_dig" "_law_dig" (defArgs s_law_dig_a) (defBody s_law_dig_a) (defScope s_law_dig_a) .none kV1 dc1 pm1 an1 cd1 ct1), sl1⟩) (c1 : PySem.W.codeIn K cd1 "_law_dig" = true) (k1 : PySem.W.keepIn K (.ref f1) = true)
    {f2 : Addr} {od2 an2 : Option Addr} {sl2 : Array (Option Value)} {oc2 kV2 dc2 pm2 cd2 ct2 : Value}
    (a2 : PySem.W.nsIn K mainGlobals "_law_next" = some (some (.ref f2))) (l2 : K.lookup f2 = some ⟨oc2, od2, .func (PySem.W.fnOf "_law_next" "_law_next" (defArgs s_law_next_a) (defBody s_law_next_a) (defScope s_law_next_a) .none kV2 dc2 pm2 an2 cd2 ct2), sl2⟩) (c2 : PySem.W.codeIn K cd2 "_law_next" = true) (k2 : PySem.W.keepIn K (.ref f2) = true)
    {f3 : Addr} {od3 an3 : Option Addr} {sl3 : Array (Option Value)} {oc3 kV3 dc3 pm3 cd3 ct3 : Value}
    (a3 : PySem.W.nsIn K mainGlobals "_law_rule" = some (some (.ref f3))) (l3 : K.lookup f3 = some ⟨oc3, od3, .func (PySem.W.fnOf "_law_rule" "_law_rule" (defArgs s_law_rule_a) (defBody s_law_rule_a) (defScope s_law_rule_a) .none kV3 dc3 pm3 an3 cd3 ct3), sl3⟩) (c3 : PySem.W.codeIn K cd3 "_law_rule" = true) (k3 : PySem.W.keepIn K (.ref f3) = true)
    {f4 : Addr} {od4 an4 : Option Addr} {sl4 : Array (Option Value)} {oc4 kV4 dc4 pm4 cd4 ct4 : Value}
    (a4 : PySem.W.nsIn K mainGlobals "_law_made" = some (some (.ref f4))) (l4 : K.lookup f4 = some ⟨oc4, od4, .func (PySem.W.fnOf "_law_made" "_law_made" (defArgs s_law_made_a) (defBody s_law_made_a) (defScope s_law_made_a) .none kV4 dc4 pm4 an4 cd4 ct4), sl4⟩) (c4 : PySem.W.codeIn K cd4 "_law_made" = true) (k4 : PySem.W.keepIn K (.ref f4) = true)
    {f5 : Addr} {od5 an5 : Option Addr} {sl5 : Array (Option Value)} {oc5 kV5 dc5 pm5 cd5 ct5 : Value}
    (a5 : PySem.W.nsIn K mainGlobals "_law_kinds" = some (some (.ref f5))) (l5 : K.lookup f5 = some ⟨oc5, od5, .func (PySem.W.fnOf "_law_kinds" "_law_kinds" (defArgs s_law_kinds_a) (defBody s_law_kinds_a) (defScope s_law_kinds_a) .none kV5 dc5 pm5 an5 cd5 ct5), sl5⟩) (c5 : PySem.W.codeIn K cd5 "_law_kinds" = true) (k5 : PySem.W.keepIn K (.ref f5) = true)
    {f6 : Addr} {od6 an6 : Option Addr} {sl6 : Array (Option Value)} {oc6 kV6 dc6 pm6 cd6 ct6 : Value}
    (a6 : PySem.W.nsIn K mainGlobals "_law_apart" = some (some (.ref f6))) (l6 : K.lookup f6 = some ⟨oc6, od6, .func (PySem.W.fnOf "_law_apart" "_law_apart" (defArgs s_law_apart_a) (defBody s_law_apart_a) (defScope s_law_apart_a) .none kV6 dc6 pm6 an6 cd6 ct6), sl6⟩) (c6 : PySem.W.codeIn K cd6 "_law_apart" = true) (k6 : PySem.W.keepIn K (.ref f6) = true)
    {f7 : Addr} {od7 an7 : Option Addr} {sl7 : Array (Option Value)} {oc7 kV7 dc7 pm7 cd7 ct7 : Value}
    (a7 : PySem.W.nsIn K mainGlobals "_law_steps" = some (some (.ref f7))) (l7 : K.lookup f7 = some ⟨oc7, od7, .func (PySem.W.fnOf "_law_steps" "_law_steps" (defArgs s_law_steps_a) (defBody s_law_steps_a) (defScope s_law_steps_a) .none kV7 dc7 pm7 an7 cd7 ct7), sl7⟩) (c7 : PySem.W.codeIn K cd7 "_law_steps" = true) (k7 : PySem.W.keepIn K (.ref f7) = true)
    {f8 : Addr} {od8 an8 : Option Addr} {sl8 : Array (Option Value)} {oc8 kV8 dc8 pm8 cd8 ct8 : Value}
    (a8 : PySem.W.nsIn K mainGlobals "_law_thing" = some (some (.ref f8))) (l8 : K.lookup f8 = some ⟨oc8, od8, .func (PySem.W.fnOf "_law_thing" "_law_thing" (defArgs s_law_thing_a) (defBody s_law_thing_a) (defScope s_law_thing_a) .none kV8 dc8 pm8 an8 cd8 ct8), sl8⟩) (c8 : PySem.W.codeIn K cd8 "_law_thing" = true) (k8 : PySem.W.keepIn K (.ref f8) = true)
    {f9 : Addr} {od9 an9 : Option Addr} {sl9 : Array (Option Value)} {oc9 kV9 dc9 pm9 cd9 ct9 : Value}
    (a9 : PySem.W.nsIn K mainGlobals "_law_bent" = some (some (.ref f9))) (l9 : K.lookup f9 = some ⟨oc9, od9, .func (PySem.W.fnOf "_law_bent" "_law_bent" (defArgs s_law_bent_a) (defBody s_law_bent_a) (defScope s_law_bent_a) .none kV9 dc9 pm9 an9 cd9 ct9), sl9⟩) (c9 : PySem.W.codeIn K cd9 "_law_bent" = true) (k9 : PySem.W.keepIn K (.ref f9) = true)
    {f10 : Addr} {od10 an10 : Option Addr} {sl10 : Array (Option Value)} {oc10 kV10 dc10 pm10 cd10 ct10 : Value}
    (a10 : PySem.W.nsIn K mainGlobals "is_whole" = some (some (.ref f10))) (l10 : K.lookup f10 = some ⟨oc10, od10, .func (PySem.W.fnOf "is_whole" "is_whole" (defArgs s_is_whole_a) (defBody s_is_whole_a) (defScope s_is_whole_a) .none kV10 dc10 pm10 an10 cd10 ct10), sl10⟩) (c10 : PySem.W.codeIn K cd10 "is_whole" = true) (k10 : PySem.W.keepIn K (.ref f10) = true)
    {f11 : Addr} {od11 an11 : Option Addr} {sl11 : Array (Option Value)} {oc11 kV11 dc11 pm11 cd11 ct11 : Value}
    (a11 : PySem.W.nsIn K mainGlobals "is_rising" = some (some (.ref f11))) (l11 : K.lookup f11 = some ⟨oc11, od11, .func (PySem.W.fnOf "is_rising" "is_rising" (defArgs s_is_rising_a) (defBody s_is_rising_a) (defScope s_is_rising_a) .none kV11 dc11 pm11 an11 cd11 ct11), sl11⟩) (c11 : PySem.W.codeIn K cd11 "is_rising" = true) (k11 : PySem.W.keepIn K (.ref f11) = true)
    {f12 : Addr} {od12 an12 : Option Addr} {sl12 : Array (Option Value)} {oc12 kV12 dc12 pm12 cd12 ct12 : Value}
    (a12 : PySem.W.nsIn K mainGlobals "is_steps" = some (some (.ref f12))) (l12 : K.lookup f12 = some ⟨oc12, od12, .func (PySem.W.fnOf "is_steps" "is_steps" (defArgs s_is_steps_a) (defBody s_is_steps_a) (defScope s_is_steps_a) .none kV12 dc12 pm12 an12 cd12 ct12), sl12⟩) (c12 : PySem.W.codeIn K cd12 "is_steps" = true) (k12 : PySem.W.keepIn K (.ref f12) = true)
    {f13 : Addr} {od13 an13 : Option Addr} {sl13 : Array (Option Value)} {oc13 kV13 dc13 pm13 cd13 ct13 : Value}
    (a13 : PySem.W.nsIn K mainGlobals "is_rule" = some (some (.ref f13))) (l13 : K.lookup f13 = some ⟨oc13, od13, .func (PySem.W.fnOf "is_rule" "is_rule" (defArgs s_is_rule_a) (defBody s_is_rule_a) (defScope s_is_rule_a) .none kV13 dc13 pm13 an13 cd13 ct13), sl13⟩) (c13 : PySem.W.codeIn K cd13 "is_rule" = true) (k13 : PySem.W.keepIn K (.ref f13) = true)
    {f14 : Addr} {od14 an14 : Option Addr} {sl14 : Array (Option Value)} {oc14 kV14 dc14 pm14 cd14 ct14 : Value}
    (a14 : PySem.W.nsIn K mainGlobals "_law_is_number" = some (some (.ref f14))) (l14 : K.lookup f14 = some ⟨oc14, od14, .func (PySem.W.fnOf "_law_is_number" "_law_is_number" (defArgs s_law_is_number_a) (defBody s_law_is_number_a) (defScope s_law_is_number_a) .none kV14 dc14 pm14 an14 cd14 ct14), sl14⟩) (c14 : PySem.W.codeIn K cd14 "_law_is_number" = true) (k14 : PySem.W.keepIn K (.ref f14) = true)
    {f15 : Addr} {od15 an15 : Option Addr} {sl15 : Array (Option Value)} {oc15 kV15 dc15 pm15 cd15 ct15 : Value}
    (a15 : PySem.W.nsIn K mainGlobals "_law_due" = some (some (.ref f15))) (l15 : K.lookup f15 = some ⟨oc15, od15, .func (PySem.W.fnOf "_law_due" "_law_due" (defArgs s_law_due_a) (defBody s_law_due_a) (defScope s_law_due_a) .none kV15 dc15 pm15 an15 cd15 ct15), sl15⟩) (c15 : PySem.W.codeIn K cd15 "_law_due" = true) (k15 : PySem.W.keepIn K (.ref f15) = true)
    {f16 : Addr} {od16 an16 : Option Addr} {sl16 : Array (Option Value)} {oc16 kV16 dc16 pm16 cd16 ct16 : Value}
    (a16 : PySem.W.nsIn K mainGlobals "law" = some (some (.ref f16))) (l16 : K.lookup f16 = some ⟨oc16, od16, .func (PySem.W.fnOf "law" "law" (defArgs s_law_k01) (defBody s_law_k01) (defScope s_law_k01) .none kV16 dc16 pm16 an16 cd16 ct16), sl16⟩) (c16 : PySem.W.codeIn K cd16 "law" = true) (k16 : PySem.W.keepIn K (.ref f16) = true)
    (z0 : PySem.W.nsIn K mainGlobals "ValueError" = some none)
    (z1 : PySem.W.nsIn K mainGlobals "all" = some none)
    (z2 : PySem.W.nsIn K mainGlobals "bool" = some none)
    (z3 : PySem.W.nsIn K mainGlobals "int" = some none)
    (z4 : PySem.W.nsIn K mainGlobals "isinstance" = some none)
    (z5 : PySem.W.nsIn K mainGlobals "len" = some none)
    (z6 : PySem.W.nsIn K mainGlobals "list" = some none)
    (z7 : PySem.W.nsIn K mainGlobals "max" = some none)
    (z8 : PySem.W.nsIn K mainGlobals "range" = some none)
    (z9 : PySem.W.nsIn K mainGlobals "set" = some none)
    (z10 : PySem.W.nsIn K mainGlobals "sorted" = some none)
    (z11 : PySem.W.nsIn K mainGlobals "str" = some none)
    (z12 : PySem.W.nsIn K mainGlobals "tuple" = some none)
    (z13 : PySem.W.nsIn K mainGlobals "zip" = some none)
    {c_Broken : Addr} (n_Broken : PySem.W.nsIn K mainGlobals "Broken" = some (some (.ref c_Broken)))
    {c_IsIn : Addr} (n_IsIn : PySem.W.nsIn K mainGlobals "IsIn" = some (some (.ref c_IsIn)))
    {c_NoNumber : Addr} (n_NoNumber : PySem.W.nsIn K mainGlobals "NoNumber" = some (some (.ref c_NoNumber)))
    {c_NoPaper : Addr} (n_NoPaper : PySem.W.nsIn K mainGlobals "NoPaper" = some (some (.ref c_NoPaper)))
    {c_NoPast : Addr} (n_NoPast : PySem.W.nsIn K mainGlobals "NoPast" = some (some (.ref c_NoPast)))
    {c_NoPlace : Addr} (n_NoPlace : PySem.W.nsIn K mainGlobals "NoPlace" = some (some (.ref c_NoPlace)))
    {c_NoRow : Addr} (n_NoRow : PySem.W.nsIn K mainGlobals "NoRow" = some (some (.ref c_NoRow)))
    {c_NoStart : Addr} (n_NoStart : PySem.W.nsIn K mainGlobals "NoStart" = some (some (.ref c_NoStart)))
    {c_NoText : Addr} (n_NoText : PySem.W.nsIn K mainGlobals "NoText" = some (some (.ref c_NoText)))
    {c_ShunError : Addr} (n_ShunError : PySem.W.nsIn K mainGlobals "ShunError" = some (some (.ref c_ShunError)))
    {c_TooLow : Addr} (n_TooLow : PySem.W.nsIn K mainGlobals "TooLow" = some (some (.ref c_TooLow)))
    {c_TooMuch : Addr} (n_TooMuch : PySem.W.nsIn K mainGlobals "TooMuch" = some (some (.ref c_TooMuch)))
    (xx_Broken : PySem.W.excIn K c_Broken [.type "ValueError", .type "Exception", .type "BaseException", .type "object"] "ValueError.__new__" = true) (xk_Broken : PySem.W.keepIn K (.ref c_Broken) = true) (xb_Broken : PySem.W.subIn K (.ref c_Broken) (.type "BaseException") = some true) (xt_Broken : PySem.W.typeIn K (.ref c_Broken) = some (.type "type"))
    (xg_Broken : PySem.W.findIn K (.ref c_Broken) "__getattribute__" = some (some (.builtin "BaseException.__getattribute__"))) (xh_Broken : PySem.W.findIn K (.ref c_Broken) "__getattr__" = some none) (xd_Broken : PySem.W.hasDictIn K c_Broken = true) (xa_Broken : PySem.W.findIn K (.ref c_Broken) "__class__" = some (some (.builtin "object.__class__"))) (xm_Broken : PySem.W.mroIn K c_Broken (.type "object") = some true)
    (hx_Broken : PySem.W.subIn K (.ref c_Broken) (.ref c_ShunError) = some true)
    (q_Broken_ShunError : PySem.W.kitOne K (.ref c_Broken) (.ref c_ShunError) = some true)
    (q_Broken_Broken : PySem.W.kitOne K (.ref c_Broken) (.ref c_Broken) = some true)
    (q_Broken_NoStart : PySem.W.kitOne K (.ref c_Broken) (.ref c_NoStart) = some false)
    (q_Broken_TooMuch : PySem.W.kitOne K (.ref c_Broken) (.ref c_TooMuch) = some false)
    (q_Broken_TooLow : PySem.W.kitOne K (.ref c_Broken) (.ref c_TooLow) = some false)
    (q_Broken_IsIn : PySem.W.kitOne K (.ref c_Broken) (.ref c_IsIn) = some false)
    (q_Broken_NoPlace : PySem.W.kitOne K (.ref c_Broken) (.ref c_NoPlace) = some false)
    (q_Broken_NoPaper : PySem.W.kitOne K (.ref c_Broken) (.ref c_NoPaper) = some false)
    (q_Broken_NoText : PySem.W.kitOne K (.ref c_Broken) (.ref c_NoText) = some false)
    (q_Broken_NoRow : PySem.W.kitOne K (.ref c_Broken) (.ref c_NoRow) = some false)
    (q_Broken_NoNumber : PySem.W.kitOne K (.ref c_Broken) (.ref c_NoNumber) = some false)
    (q_Broken_NoPast : PySem.W.kitOne K (.ref c_Broken) (.ref c_NoPast) = some false)
    (q_Broken_ValueError : PySem.W.kitOne K (.ref c_Broken) (.type "ValueError") = some true)
    (xx_IsIn : PySem.W.excIn K c_IsIn [.type "ValueError", .type "Exception", .type "BaseException", .type "object"] "ValueError.__new__" = true) (xk_IsIn : PySem.W.keepIn K (.ref c_IsIn) = true) (xb_IsIn : PySem.W.subIn K (.ref c_IsIn) (.type "BaseException") = some true) (xt_IsIn : PySem.W.typeIn K (.ref c_IsIn) = some (.type "type"))
    (xg_IsIn : PySem.W.findIn K (.ref c_IsIn) "__getattribute__" = some (some (.builtin "BaseException.__getattribute__"))) (xh_IsIn : PySem.W.findIn K (.ref c_IsIn) "__getattr__" = some none) (xd_IsIn : PySem.W.hasDictIn K c_IsIn = true) (xa_IsIn : PySem.W.findIn K (.ref c_IsIn) "__class__" = some (some (.builtin "object.__class__"))) (xm_IsIn : PySem.W.mroIn K c_IsIn (.type "object") = some true)
    (hx_IsIn : PySem.W.subIn K (.ref c_IsIn) (.ref c_ShunError) = some true)
    (q_IsIn_ShunError : PySem.W.kitOne K (.ref c_IsIn) (.ref c_ShunError) = some true)
    (q_IsIn_Broken : PySem.W.kitOne K (.ref c_IsIn) (.ref c_Broken) = some false)
    (q_IsIn_NoStart : PySem.W.kitOne K (.ref c_IsIn) (.ref c_NoStart) = some false)
    (q_IsIn_TooMuch : PySem.W.kitOne K (.ref c_IsIn) (.ref c_TooMuch) = some false)
    (q_IsIn_TooLow : PySem.W.kitOne K (.ref c_IsIn) (.ref c_TooLow) = some false)
    (q_IsIn_IsIn : PySem.W.kitOne K (.ref c_IsIn) (.ref c_IsIn) = some true)
    (q_IsIn_NoPlace : PySem.W.kitOne K (.ref c_IsIn) (.ref c_NoPlace) = some false)
    (q_IsIn_NoPaper : PySem.W.kitOne K (.ref c_IsIn) (.ref c_NoPaper) = some false)
    (q_IsIn_NoText : PySem.W.kitOne K (.ref c_IsIn) (.ref c_NoText) = some false)
    (q_IsIn_NoRow : PySem.W.kitOne K (.ref c_IsIn) (.ref c_NoRow) = some false)
    (q_IsIn_NoNumber : PySem.W.kitOne K (.ref c_IsIn) (.ref c_NoNumber) = some false)
    (q_IsIn_NoPast : PySem.W.kitOne K (.ref c_IsIn) (.ref c_NoPast) = some false)
    (q_IsIn_ValueError : PySem.W.kitOne K (.ref c_IsIn) (.type "ValueError") = some true)
    (xx_NoNumber : PySem.W.excIn K c_NoNumber [.type "ValueError", .type "Exception", .type "BaseException", .type "object"] "ValueError.__new__" = true) (xk_NoNumber : PySem.W.keepIn K (.ref c_NoNumber) = true) (xb_NoNumber : PySem.W.subIn K (.ref c_NoNumber) (.type "BaseException") = some true) (xt_NoNumber : PySem.W.typeIn K (.ref c_NoNumber) = some (.type "type"))
    (xg_NoNumber : PySem.W.findIn K (.ref c_NoNumber) "__getattribute__" = some (some (.builtin "BaseException.__getattribute__"))) (xh_NoNumber : PySem.W.findIn K (.ref c_NoNumber) "__getattr__" = some none) (xd_NoNumber : PySem.W.hasDictIn K c_NoNumber = true) (xa_NoNumber : PySem.W.findIn K (.ref c_NoNumber) "__class__" = some (some (.builtin "object.__class__"))) (xm_NoNumber : PySem.W.mroIn K c_NoNumber (.type "object") = some true)
    (hx_NoNumber : PySem.W.subIn K (.ref c_NoNumber) (.ref c_ShunError) = some true)
    (q_NoNumber_ShunError : PySem.W.kitOne K (.ref c_NoNumber) (.ref c_ShunError) = some true)
    (q_NoNumber_Broken : PySem.W.kitOne K (.ref c_NoNumber) (.ref c_Broken) = some false)
    (q_NoNumber_NoStart : PySem.W.kitOne K (.ref c_NoNumber) (.ref c_NoStart) = some false)
    (q_NoNumber_TooMuch : PySem.W.kitOne K (.ref c_NoNumber) (.ref c_TooMuch) = some false)
    (q_NoNumber_TooLow : PySem.W.kitOne K (.ref c_NoNumber) (.ref c_TooLow) = some false)
    (q_NoNumber_IsIn : PySem.W.kitOne K (.ref c_NoNumber) (.ref c_IsIn) = some false)
    (q_NoNumber_NoPlace : PySem.W.kitOne K (.ref c_NoNumber) (.ref c_NoPlace) = some false)
    (q_NoNumber_NoPaper : PySem.W.kitOne K (.ref c_NoNumber) (.ref c_NoPaper) = some false)
    (q_NoNumber_NoText : PySem.W.kitOne K (.ref c_NoNumber) (.ref c_NoText) = some false)
    (q_NoNumber_NoRow : PySem.W.kitOne K (.ref c_NoNumber) (.ref c_NoRow) = some false)
    (q_NoNumber_NoNumber : PySem.W.kitOne K (.ref c_NoNumber) (.ref c_NoNumber) = some true)
    (q_NoNumber_NoPast : PySem.W.kitOne K (.ref c_NoNumber) (.ref c_NoPast) = some false)
    (q_NoNumber_ValueError : PySem.W.kitOne K (.ref c_NoNumber) (.type "ValueError") = some true)
    (xx_NoPaper : PySem.W.excIn K c_NoPaper [.type "ValueError", .type "Exception", .type "BaseException", .type "object"] "ValueError.__new__" = true) (xk_NoPaper : PySem.W.keepIn K (.ref c_NoPaper) = true) (xb_NoPaper : PySem.W.subIn K (.ref c_NoPaper) (.type "BaseException") = some true) (xt_NoPaper : PySem.W.typeIn K (.ref c_NoPaper) = some (.type "type"))
    (xg_NoPaper : PySem.W.findIn K (.ref c_NoPaper) "__getattribute__" = some (some (.builtin "BaseException.__getattribute__"))) (xh_NoPaper : PySem.W.findIn K (.ref c_NoPaper) "__getattr__" = some none) (xd_NoPaper : PySem.W.hasDictIn K c_NoPaper = true) (xa_NoPaper : PySem.W.findIn K (.ref c_NoPaper) "__class__" = some (some (.builtin "object.__class__"))) (xm_NoPaper : PySem.W.mroIn K c_NoPaper (.type "object") = some true)
    (hx_NoPaper : PySem.W.subIn K (.ref c_NoPaper) (.ref c_ShunError) = some true)
    (q_NoPaper_ShunError : PySem.W.kitOne K (.ref c_NoPaper) (.ref c_ShunError) = some true)
    (q_NoPaper_Broken : PySem.W.kitOne K (.ref c_NoPaper) (.ref c_Broken) = some false)
    (q_NoPaper_NoStart : PySem.W.kitOne K (.ref c_NoPaper) (.ref c_NoStart) = some false)
    (q_NoPaper_TooMuch : PySem.W.kitOne K (.ref c_NoPaper) (.ref c_TooMuch) = some false)
    (q_NoPaper_TooLow : PySem.W.kitOne K (.ref c_NoPaper) (.ref c_TooLow) = some false)
    (q_NoPaper_IsIn : PySem.W.kitOne K (.ref c_NoPaper) (.ref c_IsIn) = some false)
    (q_NoPaper_NoPlace : PySem.W.kitOne K (.ref c_NoPaper) (.ref c_NoPlace) = some false)
    (q_NoPaper_NoPaper : PySem.W.kitOne K (.ref c_NoPaper) (.ref c_NoPaper) = some true)
    (q_NoPaper_NoText : PySem.W.kitOne K (.ref c_NoPaper) (.ref c_NoText) = some false)
    (q_NoPaper_NoRow : PySem.W.kitOne K (.ref c_NoPaper) (.ref c_NoRow) = some false)
    (q_NoPaper_NoNumber : PySem.W.kitOne K (.ref c_NoPaper) (.ref c_NoNumber) = some false)
    (q_NoPaper_NoPast : PySem.W.kitOne K (.ref c_NoPaper) (.ref c_NoPast) = some false)
    (q_NoPaper_ValueError : PySem.W.kitOne K (.ref c_NoPaper) (.type "ValueError") = some true)
    (xx_NoPast : PySem.W.excIn K c_NoPast [.type "ValueError", .type "Exception", .type "BaseException", .type "object"] "ValueError.__new__" = true) (xk_NoPast : PySem.W.keepIn K (.ref c_NoPast) = true) (xb_NoPast : PySem.W.subIn K (.ref c_NoPast) (.type "BaseException") = some true) (xt_NoPast : PySem.W.typeIn K (.ref c_NoPast) = some (.type "type"))
    (xg_NoPast : PySem.W.findIn K (.ref c_NoPast) "__getattribute__" = some (some (.builtin "BaseException.__getattribute__"))) (xh_NoPast : PySem.W.findIn K (.ref c_NoPast) "__getattr__" = some none) (xd_NoPast : PySem.W.hasDictIn K c_NoPast = true) (xa_NoPast : PySem.W.findIn K (.ref c_NoPast) "__class__" = some (some (.builtin "object.__class__"))) (xm_NoPast : PySem.W.mroIn K c_NoPast (.type "object") = some true)
    (hx_NoPast : PySem.W.subIn K (.ref c_NoPast) (.ref c_ShunError) = some true)
    (q_NoPast_ShunError : PySem.W.kitOne K (.ref c_NoPast) (.ref c_ShunError) = some true)
    (q_NoPast_Broken : PySem.W.kitOne K (.ref c_NoPast) (.ref c_Broken) = some false)
    (q_NoPast_NoStart : PySem.W.kitOne K (.ref c_NoPast) (.ref c_NoStart) = some false)
    (q_NoPast_TooMuch : PySem.W.kitOne K (.ref c_NoPast) (.ref c_TooMuch) = some false)
    (q_NoPast_TooLow : PySem.W.kitOne K (.ref c_NoPast) (.ref c_TooLow) = some false)
    (q_NoPast_IsIn : PySem.W.kitOne K (.ref c_NoPast) (.ref c_IsIn) = some false)
    (q_NoPast_NoPlace : PySem.W.kitOne K (.ref c_NoPast) (.ref c_NoPlace) = some false)
    (q_NoPast_NoPaper : PySem.W.kitOne K (.ref c_NoPast) (.ref c_NoPaper) = some false)
    (q_NoPast_NoText : PySem.W.kitOne K (.ref c_NoPast) (.ref c_NoText) = some false)
    (q_NoPast_NoRow : PySem.W.kitOne K (.ref c_NoPast) (.ref c_NoRow) = some false)
    (q_NoPast_NoNumber : PySem.W.kitOne K (.ref c_NoPast) (.ref c_NoNumber) = some false)
    (q_NoPast_NoPast : PySem.W.kitOne K (.ref c_NoPast) (.ref c_NoPast) = some true)
    (q_NoPast_ValueError : PySem.W.kitOne K (.ref c_NoPast) (.type "ValueError") = some true)
    (xx_NoPlace : PySem.W.excIn K c_NoPlace [.type "ValueError", .type "Exception", .type "BaseException", .type "object"] "ValueError.__new__" = true) (xk_NoPlace : PySem.W.keepIn K (.ref c_NoPlace) = true) (xb_NoPlace : PySem.W.subIn K (.ref c_NoPlace) (.type "BaseException") = some true) (xt_NoPlace : PySem.W.typeIn K (.ref c_NoPlace) = some (.type "type"))
    (xg_NoPlace : PySem.W.findIn K (.ref c_NoPlace) "__getattribute__" = some (some (.builtin "BaseException.__getattribute__"))) (xh_NoPlace : PySem.W.findIn K (.ref c_NoPlace) "__getattr__" = some none) (xd_NoPlace : PySem.W.hasDictIn K c_NoPlace = true) (xa_NoPlace : PySem.W.findIn K (.ref c_NoPlace) "__class__" = some (some (.builtin "object.__class__"))) (xm_NoPlace : PySem.W.mroIn K c_NoPlace (.type "object") = some true)
    (hx_NoPlace : PySem.W.subIn K (.ref c_NoPlace) (.ref c_ShunError) = some true)
    (q_NoPlace_ShunError : PySem.W.kitOne K (.ref c_NoPlace) (.ref c_ShunError) = some true)
    (q_NoPlace_Broken : PySem.W.kitOne K (.ref c_NoPlace) (.ref c_Broken) = some false)
    (q_NoPlace_NoStart : PySem.W.kitOne K (.ref c_NoPlace) (.ref c_NoStart) = some false)
    (q_NoPlace_TooMuch : PySem.W.kitOne K (.ref c_NoPlace) (.ref c_TooMuch) = some false)
    (q_NoPlace_TooLow : PySem.W.kitOne K (.ref c_NoPlace) (.ref c_TooLow) = some false)
    (q_NoPlace_IsIn : PySem.W.kitOne K (.ref c_NoPlace) (.ref c_IsIn) = some false)
    (q_NoPlace_NoPlace : PySem.W.kitOne K (.ref c_NoPlace) (.ref c_NoPlace) = some true)
    (q_NoPlace_NoPaper : PySem.W.kitOne K (.ref c_NoPlace) (.ref c_NoPaper) = some false)
    (q_NoPlace_NoText : PySem.W.kitOne K (.ref c_NoPlace) (.ref c_NoText) = some false)
    (q_NoPlace_NoRow : PySem.W.kitOne K (.ref c_NoPlace) (.ref c_NoRow) = some false)
    (q_NoPlace_NoNumber : PySem.W.kitOne K (.ref c_NoPlace) (.ref c_NoNumber) = some false)
    (q_NoPlace_NoPast : PySem.W.kitOne K (.ref c_NoPlace) (.ref c_NoPast) = some false)
    (q_NoPlace_ValueError : PySem.W.kitOne K (.ref c_NoPlace) (.type "ValueError") = some true)
    (xx_NoRow : PySem.W.excIn K c_NoRow [.type "ValueError", .type "Exception", .type "BaseException", .type "object"] "ValueError.__new__" = true) (xk_NoRow : PySem.W.keepIn K (.ref c_NoRow) = true) (xb_NoRow : PySem.W.subIn K (.ref c_NoRow) (.type "BaseException") = some true) (xt_NoRow : PySem.W.typeIn K (.ref c_NoRow) = some (.type "type"))
    (xg_NoRow : PySem.W.findIn K (.ref c_NoRow) "__getattribute__" = some (some (.builtin "BaseException.__getattribute__"))) (xh_NoRow : PySem.W.findIn K (.ref c_NoRow) "__getattr__" = some none) (xd_NoRow : PySem.W.hasDictIn K c_NoRow = true) (xa_NoRow : PySem.W.findIn K (.ref c_NoRow) "__class__" = some (some (.builtin "object.__class__"))) (xm_NoRow : PySem.W.mroIn K c_NoRow (.type "object") = some true)
    (hx_NoRow : PySem.W.subIn K (.ref c_NoRow) (.ref c_ShunError) = some true)
    (q_NoRow_ShunError : PySem.W.kitOne K (.ref c_NoRow) (.ref c_ShunError) = some true)
    (q_NoRow_Broken : PySem.W.kitOne K (.ref c_NoRow) (.ref c_Broken) = some false)
    (q_NoRow_NoStart : PySem.W.kitOne K (.ref c_NoRow) (.ref c_NoStart) = some false)
    (q_NoRow_TooMuch : PySem.W.kitOne K (.ref c_NoRow) (.ref c_TooMuch) = some false)
    (q_NoRow_TooLow : PySem.W.kitOne K (.ref c_NoRow) (.ref c_TooLow) = some false)
    (q_NoRow_IsIn : PySem.W.kitOne K (.ref c_NoRow) (.ref c_IsIn) = some false)
    (q_NoRow_NoPlace : PySem.W.kitOne K (.ref c_NoRow) (.ref c_NoPlace) = some false)
    (q_NoRow_NoPaper : PySem.W.kitOne K (.ref c_NoRow) (.ref c_NoPaper) = some false)
    (q_NoRow_NoText : PySem.W.kitOne K (.ref c_NoRow) (.ref c_NoText) = some false)
    (q_NoRow_NoRow : PySem.W.kitOne K (.ref c_NoRow) (.ref c_NoRow) = some true)
    (q_NoRow_NoNumber : PySem.W.kitOne K (.ref c_NoRow) (.ref c_NoNumber) = some false)
    (q_NoRow_NoPast : PySem.W.kitOne K (.ref c_NoRow) (.ref c_NoPast) = some false)
    (q_NoRow_ValueError : PySem.W.kitOne K (.ref c_NoRow) (.type "ValueError") = some true)
    (xx_NoStart : PySem.W.excIn K c_NoStart [.type "ValueError", .type "Exception", .type "BaseException", .type "object"] "ValueError.__new__" = true) (xk_NoStart : PySem.W.keepIn K (.ref c_NoStart) = true) (xb_NoStart : PySem.W.subIn K (.ref c_NoStart) (.type "BaseException") = some true) (xt_NoStart : PySem.W.typeIn K (.ref c_NoStart) = some (.type "type"))
    (xg_NoStart : PySem.W.findIn K (.ref c_NoStart) "__getattribute__" = some (some (.builtin "BaseException.__getattribute__"))) (xh_NoStart : PySem.W.findIn K (.ref c_NoStart) "__getattr__" = some none) (xd_NoStart : PySem.W.hasDictIn K c_NoStart = true) (xa_NoStart : PySem.W.findIn K (.ref c_NoStart) "__class__" = some (some (.builtin "object.__class__"))) (xm_NoStart : PySem.W.mroIn K c_NoStart (.type "object") = some true)
    (hx_NoStart : PySem.W.subIn K (.ref c_NoStart) (.ref c_ShunError) = some true)
    (q_NoStart_ShunError : PySem.W.kitOne K (.ref c_NoStart) (.ref c_ShunError) = some true)
    (q_NoStart_Broken : PySem.W.kitOne K (.ref c_NoStart) (.ref c_Broken) = some false)
    (q_NoStart_NoStart : PySem.W.kitOne K (.ref c_NoStart) (.ref c_NoStart) = some true)
    (q_NoStart_TooMuch : PySem.W.kitOne K (.ref c_NoStart) (.ref c_TooMuch) = some false)
    (q_NoStart_TooLow : PySem.W.kitOne K (.ref c_NoStart) (.ref c_TooLow) = some false)
    (q_NoStart_IsIn : PySem.W.kitOne K (.ref c_NoStart) (.ref c_IsIn) = some false)
    (q_NoStart_NoPlace : PySem.W.kitOne K (.ref c_NoStart) (.ref c_NoPlace) = some false)
    (q_NoStart_NoPaper : PySem.W.kitOne K (.ref c_NoStart) (.ref c_NoPaper) = some false)
    (q_NoStart_NoText : PySem.W.kitOne K (.ref c_NoStart) (.ref c_NoText) = some false)
    (q_NoStart_NoRow : PySem.W.kitOne K (.ref c_NoStart) (.ref c_NoRow) = some false)
    (q_NoStart_NoNumber : PySem.W.kitOne K (.ref c_NoStart) (.ref c_NoNumber) = some false)
    (q_NoStart_NoPast : PySem.W.kitOne K (.ref c_NoStart) (.ref c_NoPast) = some false)
    (q_NoStart_ValueError : PySem.W.kitOne K (.ref c_NoStart) (.type "ValueError") = some true)
    (xx_NoText : PySem.W.excIn K c_NoText [.type "ValueError", .type "Exception", .type "BaseException", .type "object"] "ValueError.__new__" = true) (xk_NoText : PySem.W.keepIn K (.ref c_NoText) = true) (xb_NoText : PySem.W.subIn K (.ref c_NoText) (.type "BaseException") = some true) (xt_NoText : PySem.W.typeIn K (.ref c_NoText) = some (.type "type"))
    (xg_NoText : PySem.W.findIn K (.ref c_NoText) "__getattribute__" = some (some (.builtin "BaseException.__getattribute__"))) (xh_NoText : PySem.W.findIn K (.ref c_NoText) "__getattr__" = some none) (xd_NoText : PySem.W.hasDictIn K c_NoText = true) (xa_NoText : PySem.W.findIn K (.ref c_NoText) "__class__" = some (some (.builtin "object.__class__"))) (xm_NoText : PySem.W.mroIn K c_NoText (.type "object") = some true)
    (hx_NoText : PySem.W.subIn K (.ref c_NoText) (.ref c_ShunError) = some true)
    (q_NoText_ShunError : PySem.W.kitOne K (.ref c_NoText) (.ref c_ShunError) = some true)
    (q_NoText_Broken : PySem.W.kitOne K (.ref c_NoText) (.ref c_Broken) = some false)
    (q_NoText_NoStart : PySem.W.kitOne K (.ref c_NoText) (.ref c_NoStart) = some false)
    (q_NoText_TooMuch : PySem.W.kitOne K (.ref c_NoText) (.ref c_TooMuch) = some false)
    (q_NoText_TooLow : PySem.W.kitOne K (.ref c_NoText) (.ref c_TooLow) = some false)
    (q_NoText_IsIn : PySem.W.kitOne K (.ref c_NoText) (.ref c_IsIn) = some false)
    (q_NoText_NoPlace : PySem.W.kitOne K (.ref c_NoText) (.ref c_NoPlace) = some false)
    (q_NoText_NoPaper : PySem.W.kitOne K (.ref c_NoText) (.ref c_NoPaper) = some false)
    (q_NoText_NoText : PySem.W.kitOne K (.ref c_NoText) (.ref c_NoText) = some true)
    (q_NoText_NoRow : PySem.W.kitOne K (.ref c_NoText) (.ref c_NoRow) = some false)
    (q_NoText_NoNumber : PySem.W.kitOne K (.ref c_NoText) (.ref c_NoNumber) = some false)
    (q_NoText_NoPast : PySem.W.kitOne K (.ref c_NoText) (.ref c_NoPast) = some false)
    (q_NoText_ValueError : PySem.W.kitOne K (.ref c_NoText) (.type "ValueError") = some true)
    (xx_ShunError : PySem.W.excIn K c_ShunError [.type "ValueError", .type "Exception", .type "BaseException", .type "object"] "ValueError.__new__" = true) (xk_ShunError : PySem.W.keepIn K (.ref c_ShunError) = true) (xb_ShunError : PySem.W.subIn K (.ref c_ShunError) (.type "BaseException") = some true) (xt_ShunError : PySem.W.typeIn K (.ref c_ShunError) = some (.type "type"))
    (xg_ShunError : PySem.W.findIn K (.ref c_ShunError) "__getattribute__" = some (some (.builtin "BaseException.__getattribute__"))) (xh_ShunError : PySem.W.findIn K (.ref c_ShunError) "__getattr__" = some none) (xd_ShunError : PySem.W.hasDictIn K c_ShunError = true) (xa_ShunError : PySem.W.findIn K (.ref c_ShunError) "__class__" = some (some (.builtin "object.__class__"))) (xm_ShunError : PySem.W.mroIn K c_ShunError (.type "object") = some true)
    (hx_ShunError : PySem.W.subIn K (.ref c_ShunError) (.ref c_ShunError) = some true)
    (q_ShunError_ShunError : PySem.W.kitOne K (.ref c_ShunError) (.ref c_ShunError) = some true)
    (q_ShunError_Broken : PySem.W.kitOne K (.ref c_ShunError) (.ref c_Broken) = some false)
    (q_ShunError_NoStart : PySem.W.kitOne K (.ref c_ShunError) (.ref c_NoStart) = some false)
    (q_ShunError_TooMuch : PySem.W.kitOne K (.ref c_ShunError) (.ref c_TooMuch) = some false)
    (q_ShunError_TooLow : PySem.W.kitOne K (.ref c_ShunError) (.ref c_TooLow) = some false)
    (q_ShunError_IsIn : PySem.W.kitOne K (.ref c_ShunError) (.ref c_IsIn) = some false)
    (q_ShunError_NoPlace : PySem.W.kitOne K (.ref c_ShunError) (.ref c_NoPlace) = some false)
    (q_ShunError_NoPaper : PySem.W.kitOne K (.ref c_ShunError) (.ref c_NoPaper) = some false)
    (q_ShunError_NoText : PySem.W.kitOne K (.ref c_ShunError) (.ref c_NoText) = some false)
    (q_ShunError_NoRow : PySem.W.kitOne K (.ref c_ShunError) (.ref c_NoRow) = some false)
    (q_ShunError_NoNumber : PySem.W.kitOne K (.ref c_ShunError) (.ref c_NoNumber) = some false)
    (q_ShunError_NoPast : PySem.W.kitOne K (.ref c_ShunError) (.ref c_NoPast) = some false)
    (q_ShunError_ValueError : PySem.W.kitOne K (.ref c_ShunError) (.type "ValueError") = some true)
    (xx_TooLow : PySem.W.excIn K c_TooLow [.type "ValueError", .type "Exception", .type "BaseException", .type "object"] "ValueError.__new__" = true) (xk_TooLow : PySem.W.keepIn K (.ref c_TooLow) = true) (xb_TooLow : PySem.W.subIn K (.ref c_TooLow) (.type "BaseException") = some true) (xt_TooLow : PySem.W.typeIn K (.ref c_TooLow) = some (.type "type"))
    (xg_TooLow : PySem.W.findIn K (.ref c_TooLow) "__getattribute__" = some (some (.builtin "BaseException.__getattribute__"))) (xh_TooLow : PySem.W.findIn K (.ref c_TooLow) "__getattr__" = some none) (xd_TooLow : PySem.W.hasDictIn K c_TooLow = true) (xa_TooLow : PySem.W.findIn K (.ref c_TooLow) "__class__" = some (some (.builtin "object.__class__"))) (xm_TooLow : PySem.W.mroIn K c_TooLow (.type "object") = some true)
    (hx_TooLow : PySem.W.subIn K (.ref c_TooLow) (.ref c_ShunError) = some true)
    (q_TooLow_ShunError : PySem.W.kitOne K (.ref c_TooLow) (.ref c_ShunError) = some true)
    (q_TooLow_Broken : PySem.W.kitOne K (.ref c_TooLow) (.ref c_Broken) = some false)
    (q_TooLow_NoStart : PySem.W.kitOne K (.ref c_TooLow) (.ref c_NoStart) = some false)
    (q_TooLow_TooMuch : PySem.W.kitOne K (.ref c_TooLow) (.ref c_TooMuch) = some false)
    (q_TooLow_TooLow : PySem.W.kitOne K (.ref c_TooLow) (.ref c_TooLow) = some true)
    (q_TooLow_IsIn : PySem.W.kitOne K (.ref c_TooLow) (.ref c_IsIn) = some false)
    (q_TooLow_NoPlace : PySem.W.kitOne K (.ref c_TooLow) (.ref c_NoPlace) = some false)
    (q_TooLow_NoPaper : PySem.W.kitOne K (.ref c_TooLow) (.ref c_NoPaper) = some false)
    (q_TooLow_NoText : PySem.W.kitOne K (.ref c_TooLow) (.ref c_NoText) = some false)
    (q_TooLow_NoRow : PySem.W.kitOne K (.ref c_TooLow) (.ref c_NoRow) = some false)
    (q_TooLow_NoNumber : PySem.W.kitOne K (.ref c_TooLow) (.ref c_NoNumber) = some false)
    (q_TooLow_NoPast : PySem.W.kitOne K (.ref c_TooLow) (.ref c_NoPast) = some false)
    (q_TooLow_ValueError : PySem.W.kitOne K (.ref c_TooLow) (.type "ValueError") = some true)
    (xx_TooMuch : PySem.W.excIn K c_TooMuch [.type "ValueError", .type "Exception", .type "BaseException", .type "object"] "ValueError.__new__" = true) (xk_TooMuch : PySem.W.keepIn K (.ref c_TooMuch) = true) (xb_TooMuch : PySem.W.subIn K (.ref c_TooMuch) (.type "BaseException") = some true) (xt_TooMuch : PySem.W.typeIn K (.ref c_TooMuch) = some (.type "type"))
    (xg_TooMuch : PySem.W.findIn K (.ref c_TooMuch) "__getattribute__" = some (some (.builtin "BaseException.__getattribute__"))) (xh_TooMuch : PySem.W.findIn K (.ref c_TooMuch) "__getattr__" = some none) (xd_TooMuch : PySem.W.hasDictIn K c_TooMuch = true) (xa_TooMuch : PySem.W.findIn K (.ref c_TooMuch) "__class__" = some (some (.builtin "object.__class__"))) (xm_TooMuch : PySem.W.mroIn K c_TooMuch (.type "object") = some true)
    (hx_TooMuch : PySem.W.subIn K (.ref c_TooMuch) (.ref c_ShunError) = some true)
    (q_TooMuch_ShunError : PySem.W.kitOne K (.ref c_TooMuch) (.ref c_ShunError) = some true)
    (q_TooMuch_Broken : PySem.W.kitOne K (.ref c_TooMuch) (.ref c_Broken) = some false)
    (q_TooMuch_NoStart : PySem.W.kitOne K (.ref c_TooMuch) (.ref c_NoStart) = some false)
    (q_TooMuch_TooMuch : PySem.W.kitOne K (.ref c_TooMuch) (.ref c_TooMuch) = some true)
    (q_TooMuch_TooLow : PySem.W.kitOne K (.ref c_TooMuch) (.ref c_TooLow) = some false)
    (q_TooMuch_IsIn : PySem.W.kitOne K (.ref c_TooMuch) (.ref c_IsIn) = some false)
    (q_TooMuch_NoPlace : PySem.W.kitOne K (.ref c_TooMuch) (.ref c_NoPlace) = some false)
    (q_TooMuch_NoPaper : PySem.W.kitOne K (.ref c_TooMuch) (.ref c_NoPaper) = some false)
    (q_TooMuch_NoText : PySem.W.kitOne K (.ref c_TooMuch) (.ref c_NoText) = some false)
    (q_TooMuch_NoRow : PySem.W.kitOne K (.ref c_TooMuch) (.ref c_NoRow) = some false)
    (q_TooMuch_NoNumber : PySem.W.kitOne K (.ref c_TooMuch) (.ref c_NoNumber) = some false)
    (q_TooMuch_NoPast : PySem.W.kitOne K (.ref c_TooMuch) (.ref c_NoPast) = some false)
    (q_TooMuch_ValueError : PySem.W.kitOne K (.ref c_TooMuch) (.type "ValueError") = some true)
    (xn : PySem.W.specialIn K (.builtin "object.__class__") "__get__" = some (some (.builtin "getset_descriptor.__get__"))) (xq : PySem.W.takesIn K (.builtin "object.__class__") = some true)
    (sh_b : PySem.W.subIn K (.ref c_ShunError) (.type "BaseException") = some true) (sh_d : PySem.W.hasDictIn K c_ShunError = true) (sh_t : PySem.W.typeIn K (.ref c_ShunError) = some (.type "type"))
    (y_MOST_STEP : ∃ v u, mg "MOST_STEP" = some u ∧ RelV v u ∧ ∀ F, Rep K F (.int 10) v)
    (y_MOST_STEPS : ∃ v u, mg "MOST_STEPS" = some u ∧ RelV v u ∧ ∀ F, Rep K F (.int 4) v)
    (y_PLAIN : ∃ v u, mg "PLAIN" = some u ∧ RelV v u ∧ ∀ F, Rep K F (.tup [.tup [.str "evens"], .tup [.str "sums"], .tup [.str "pairs"]]) v)
    : ∃ fd : FuncData, (∀ (s : Shared) (v : Value), BindsTo s fd ⟨[v], []⟩ [("script", v)]) ∧ ∀ base : Heap, K.In base → base.Ns mainGlobals mg → FnOk l.prog w K mg base CX0 8 fa fd ["script"] (liftSp K cls0 sp_law_k01) := by
  have e := hfa.symm.trans (PySem.W.mg_of X G a16)
  cases e
  have F0 := fun_mk (st := s_law_cells_a) l0 c0 k0
  have b0 := F0.binds (ps := ["script", "least", "most"]) fun _ _ _ _ _ _ us hl => match us, hl with | [_, _, _], _ => rfl
  have F1 := fun_mk (st := s_law_dig_a) l1 c1 k1
  have b1 := F1.binds (ps := ["cell"]) fun _ _ _ _ _ _ us hl => match us, hl with | [_], _ => rfl
  have F2 := fun_mk (st := s_law_next_a) l2 c2 k2
  have b2 := F2.binds (ps := ["pool", "base"]) fun _ _ _ _ _ _ us hl => match us, hl with | [_, _], _ => rfl
  have F3 := fun_mk (st := s_law_rule_a) l3 c3 k3
  have b3 := F3.binds (ps := ["pool"]) fun _ _ _ _ _ _ us hl => match us, hl with | [_], _ => rfl
  have F4 := fun_mk (st := s_law_made_a) l4 c4 k4
  have b4 := F4.binds (ps := ["text"]) fun _ _ _ _ _ _ us hl => match us, hl with | [_], _ => rfl
  have F5 := fun_mk (st := s_law_kinds_a) l5 c5 k5
  have b5 := F5.binds (ps := ["made"]) fun _ _ _ _ _ _ us hl => match us, hl with | [_], _ => rfl
  have F6 := fun_mk (st := s_law_apart_a) l6 c6 k6
  have b6 := F6.binds (ps := ["text"]) fun _ _ _ _ _ _ us hl => match us, hl with | [_], _ => rfl
  have F7 := fun_mk (st := s_law_steps_a) l7 c7 k7
  have b7 := F7.binds (ps := ["pool"]) fun _ _ _ _ _ _ us hl => match us, hl with | [_], _ => rfl
  have F8 := fun_mk (st := s_law_thing_a) l8 c8 k8
  have b8 := F8.binds (ps := ["pool", "deep"]) fun _ _ _ _ _ _ us hl => match us, hl with | [_, _], _ => rfl
  have F9 := fun_mk (st := s_law_bent_a) l9 c9 k9
  have b9 := F9.binds (ps := ["pool", "rule"]) fun _ _ _ _ _ _ us hl => match us, hl with | [_, _], _ => rfl
  have F10 := fun_mk (st := s_is_whole_a) l10 c10 k10
  have b10 := F10.binds (ps := ["thing"]) fun _ _ _ _ _ _ us hl => match us, hl with | [_], _ => rfl
  have F11 := fun_mk (st := s_is_rising_a) l11 c11 k11
  have b11 := F11.binds (ps := ["thing"]) fun _ _ _ _ _ _ us hl => match us, hl with | [_], _ => rfl
  have F12 := fun_mk (st := s_is_steps_a) l12 c12 k12
  have b12 := F12.binds (ps := ["thing"]) fun _ _ _ _ _ _ us hl => match us, hl with | [_], _ => rfl
  have F13 := fun_mk (st := s_is_rule_a) l13 c13 k13
  have b13 := F13.binds (ps := ["thing"]) fun _ _ _ _ _ _ us hl => match us, hl with | [_], _ => rfl
  have F14 := fun_mk (st := s_law_is_number_a) l14 c14 k14
  have b14 := F14.binds (ps := ["thing"]) fun _ _ _ _ _ _ us hl => match us, hl with | [_], _ => rfl
  have F15 := fun_mk (st := s_law_due_a) l15 c15 k15
  have b15 := F15.binds (ps := ["thing"]) fun _ _ _ _ _ _ us hl => match us, hl with | [_], _ => rfl
  have F16 := fun_mk (st := s_law_k01) l16 c16 k16
  obtain ⟨cls, e_Broken, e_IsIn, e_NoNumber, e_NoPaper, e_NoPast, e_NoPlace, e_NoRow, e_NoStart, e_NoText, e_ShunError, e_TooLow, e_TooMuch⟩ : ∃ cls : String → Addr, cls "Broken" = c_Broken ∧ cls "IsIn" = c_IsIn ∧ cls "NoNumber" = c_NoNumber ∧ cls "NoPaper" = c_NoPaper ∧ cls "NoPast" = c_NoPast ∧ cls "NoPlace" = c_NoPlace ∧ cls "NoRow" = c_NoRow ∧ cls "NoStart" = c_NoStart ∧ cls "NoText" = c_NoText ∧ cls "ShunError" = c_ShunError ∧ cls "TooLow" = c_TooLow ∧ cls "TooMuch" = c_TooMuch := ⟨fun c => if c = "Broken" then c_Broken else if c = "IsIn" then c_IsIn else if c = "NoNumber" then c_NoNumber else if c = "NoPaper" then c_NoPaper else if c = "NoPast" then c_NoPast else if c = "NoPlace" then c_NoPlace else if c = "NoRow" then c_NoRow else if c = "NoStart" then c_NoStart else if c = "NoText" then c_NoText else if c = "ShunError" then c_ShunError else if c = "TooLow" then c_TooLow else if c = "TooMuch" then c_TooMuch else 0, by simp, by simp, by simp, by simp, by simp, by simp, by simp, by simp, by simp, by simp, by simp, by simp⟩
  have Z : Bi K mg cls := ⟨⟨by rw [e_Broken]; exact PySem.W.mg_of X G n_Broken, by rw [e_Broken]; exact xx_Broken, by rw [e_Broken]; exact xk_Broken, by rw [e_Broken]; exact xb_Broken, by rw [e_Broken]; exact xt_Broken⟩,
    ⟨by rw [e_IsIn]; exact PySem.W.mg_of X G n_IsIn, by rw [e_IsIn]; exact xx_IsIn, by rw [e_IsIn]; exact xk_IsIn, by rw [e_IsIn]; exact xb_IsIn, by rw [e_IsIn]; exact xt_IsIn⟩,
    ⟨by rw [e_NoNumber]; exact PySem.W.mg_of X G n_NoNumber, by rw [e_NoNumber]; exact xx_NoNumber, by rw [e_NoNumber]; exact xk_NoNumber, by rw [e_NoNumber]; exact xb_NoNumber, by rw [e_NoNumber]; exact xt_NoNumber⟩,
    ⟨by rw [e_NoPaper]; exact PySem.W.mg_of X G n_NoPaper, by rw [e_NoPaper]; exact xx_NoPaper, by rw [e_NoPaper]; exact xk_NoPaper, by rw [e_NoPaper]; exact xb_NoPaper, by rw [e_NoPaper]; exact xt_NoPaper⟩,
    ⟨by rw [e_NoPast]; exact PySem.W.mg_of X G n_NoPast, by rw [e_NoPast]; exact xx_NoPast, by rw [e_NoPast]; exact xk_NoPast, by rw [e_NoPast]; exact xb_NoPast, by rw [e_NoPast]; exact xt_NoPast⟩,
    ⟨by rw [e_NoPlace]; exact PySem.W.mg_of X G n_NoPlace, by rw [e_NoPlace]; exact xx_NoPlace, by rw [e_NoPlace]; exact xk_NoPlace, by rw [e_NoPlace]; exact xb_NoPlace, by rw [e_NoPlace]; exact xt_NoPlace⟩,
    ⟨by rw [e_NoRow]; exact PySem.W.mg_of X G n_NoRow, by rw [e_NoRow]; exact xx_NoRow, by rw [e_NoRow]; exact xk_NoRow, by rw [e_NoRow]; exact xb_NoRow, by rw [e_NoRow]; exact xt_NoRow⟩,
    ⟨by rw [e_NoStart]; exact PySem.W.mg_of X G n_NoStart, by rw [e_NoStart]; exact xx_NoStart, by rw [e_NoStart]; exact xk_NoStart, by rw [e_NoStart]; exact xb_NoStart, by rw [e_NoStart]; exact xt_NoStart⟩,
    ⟨by rw [e_NoText]; exact PySem.W.mg_of X G n_NoText, by rw [e_NoText]; exact xx_NoText, by rw [e_NoText]; exact xk_NoText, by rw [e_NoText]; exact xb_NoText, by rw [e_NoText]; exact xt_NoText⟩,
    ⟨by rw [e_ShunError]; exact PySem.W.mg_of X G n_ShunError, by rw [e_ShunError]; exact xx_ShunError, by rw [e_ShunError]; exact xk_ShunError, by rw [e_ShunError]; exact xb_ShunError, by rw [e_ShunError]; exact xt_ShunError⟩,
    ⟨by rw [e_TooLow]; exact PySem.W.mg_of X G n_TooLow, by rw [e_TooLow]; exact xx_TooLow, by rw [e_TooLow]; exact xk_TooLow, by rw [e_TooLow]; exact xb_TooLow, by rw [e_TooLow]; exact xt_TooLow⟩,
    ⟨by rw [e_TooMuch]; exact PySem.W.mg_of X G n_TooMuch, by rw [e_TooMuch]; exact xx_TooMuch, by rw [e_TooMuch]; exact xk_TooMuch, by rw [e_TooMuch]; exact xb_TooMuch, by rw [e_TooMuch]; exact xt_TooMuch⟩,
    fun c hc => by
      have hc := cs_two hc
      simp only [List.mem_cons, List.not_mem_nil, or_false] at hc
      rcases hc with rfl | rfl | rfl | rfl | rfl | rfl | rfl | rfl | rfl | rfl | rfl | rfl
      · rw [e_Broken, e_ShunError, show isSub "Broken" ["ShunError"] = true by decide]; exact q_Broken_ShunError
      · rw [e_IsIn, e_ShunError, show isSub "IsIn" ["ShunError"] = true by decide]; exact q_IsIn_ShunError
      · rw [e_NoNumber, e_ShunError, show isSub "NoNumber" ["ShunError"] = true by decide]; exact q_NoNumber_ShunError
      · rw [e_NoPaper, e_ShunError, show isSub "NoPaper" ["ShunError"] = true by decide]; exact q_NoPaper_ShunError
      · rw [e_NoPast, e_ShunError, show isSub "NoPast" ["ShunError"] = true by decide]; exact q_NoPast_ShunError
      · rw [e_NoPlace, e_ShunError, show isSub "NoPlace" ["ShunError"] = true by decide]; exact q_NoPlace_ShunError
      · rw [e_NoRow, e_ShunError, show isSub "NoRow" ["ShunError"] = true by decide]; exact q_NoRow_ShunError
      · rw [e_NoStart, e_ShunError, show isSub "NoStart" ["ShunError"] = true by decide]; exact q_NoStart_ShunError
      · rw [e_NoText, e_ShunError, show isSub "NoText" ["ShunError"] = true by decide]; exact q_NoText_ShunError
      · rw [e_ShunError, show isSub "ShunError" ["ShunError"] = true by decide]; exact q_ShunError_ShunError
      · rw [e_TooLow, e_ShunError, show isSub "TooLow" ["ShunError"] = true by decide]; exact q_TooLow_ShunError
      · rw [e_TooMuch, e_ShunError, show isSub "TooMuch" ["ShunError"] = true by decide]; exact q_TooMuch_ShunError,
    fun c hc => by
      have hc := cs_two hc
      simp only [List.mem_cons, List.not_mem_nil, or_false] at hc
      rcases hc with rfl | rfl | rfl | rfl | rfl | rfl | rfl | rfl | rfl | rfl | rfl | rfl
      · rw [e_Broken, show isSub "Broken" ["Broken"] = true by decide]; exact q_Broken_Broken
      · rw [e_IsIn, e_Broken, show isSub "IsIn" ["Broken"] = false by decide]; exact q_IsIn_Broken
      · rw [e_NoNumber, e_Broken, show isSub "NoNumber" ["Broken"] = false by decide]; exact q_NoNumber_Broken
      · rw [e_NoPaper, e_Broken, show isSub "NoPaper" ["Broken"] = false by decide]; exact q_NoPaper_Broken
      · rw [e_NoPast, e_Broken, show isSub "NoPast" ["Broken"] = false by decide]; exact q_NoPast_Broken
      · rw [e_NoPlace, e_Broken, show isSub "NoPlace" ["Broken"] = false by decide]; exact q_NoPlace_Broken
      · rw [e_NoRow, e_Broken, show isSub "NoRow" ["Broken"] = false by decide]; exact q_NoRow_Broken
      · rw [e_NoStart, e_Broken, show isSub "NoStart" ["Broken"] = false by decide]; exact q_NoStart_Broken
      · rw [e_NoText, e_Broken, show isSub "NoText" ["Broken"] = false by decide]; exact q_NoText_Broken
      · rw [e_ShunError, e_Broken, show isSub "ShunError" ["Broken"] = false by decide]; exact q_ShunError_Broken
      · rw [e_TooLow, e_Broken, show isSub "TooLow" ["Broken"] = false by decide]; exact q_TooLow_Broken
      · rw [e_TooMuch, e_Broken, show isSub "TooMuch" ["Broken"] = false by decide]; exact q_TooMuch_Broken,
    fun c hc => by
      have hc := cs_two hc
      simp only [List.mem_cons, List.not_mem_nil, or_false] at hc
      rcases hc with rfl | rfl | rfl | rfl | rfl | rfl | rfl | rfl | rfl | rfl | rfl | rfl
      · rw [e_Broken, e_NoStart, show isSub "Broken" ["NoStart"] = false by decide]; exact q_Broken_NoStart
      · rw [e_IsIn, e_NoStart, show isSub "IsIn" ["NoStart"] = false by decide]; exact q_IsIn_NoStart
      · rw [e_NoNumber, e_NoStart, show isSub "NoNumber" ["NoStart"] = false by decide]; exact q_NoNumber_NoStart
      · rw [e_NoPaper, e_NoStart, show isSub "NoPaper" ["NoStart"] = false by decide]; exact q_NoPaper_NoStart
      · rw [e_NoPast, e_NoStart, show isSub "NoPast" ["NoStart"] = false by decide]; exact q_NoPast_NoStart
      · rw [e_NoPlace, e_NoStart, show isSub "NoPlace" ["NoStart"] = false by decide]; exact q_NoPlace_NoStart
      · rw [e_NoRow, e_NoStart, show isSub "NoRow" ["NoStart"] = false by decide]; exact q_NoRow_NoStart
      · rw [e_NoStart, show isSub "NoStart" ["NoStart"] = true by decide]; exact q_NoStart_NoStart
      · rw [e_NoText, e_NoStart, show isSub "NoText" ["NoStart"] = false by decide]; exact q_NoText_NoStart
      · rw [e_ShunError, e_NoStart, show isSub "ShunError" ["NoStart"] = false by decide]; exact q_ShunError_NoStart
      · rw [e_TooLow, e_NoStart, show isSub "TooLow" ["NoStart"] = false by decide]; exact q_TooLow_NoStart
      · rw [e_TooMuch, e_NoStart, show isSub "TooMuch" ["NoStart"] = false by decide]; exact q_TooMuch_NoStart,
    fun c hc => by
      have hc := cs_two hc
      simp only [List.mem_cons, List.not_mem_nil, or_false] at hc
      rcases hc with rfl | rfl | rfl | rfl | rfl | rfl | rfl | rfl | rfl | rfl | rfl | rfl
      · rw [e_Broken, e_TooMuch, show isSub "Broken" ["TooMuch"] = false by decide]; exact q_Broken_TooMuch
      · rw [e_IsIn, e_TooMuch, show isSub "IsIn" ["TooMuch"] = false by decide]; exact q_IsIn_TooMuch
      · rw [e_NoNumber, e_TooMuch, show isSub "NoNumber" ["TooMuch"] = false by decide]; exact q_NoNumber_TooMuch
      · rw [e_NoPaper, e_TooMuch, show isSub "NoPaper" ["TooMuch"] = false by decide]; exact q_NoPaper_TooMuch
      · rw [e_NoPast, e_TooMuch, show isSub "NoPast" ["TooMuch"] = false by decide]; exact q_NoPast_TooMuch
      · rw [e_NoPlace, e_TooMuch, show isSub "NoPlace" ["TooMuch"] = false by decide]; exact q_NoPlace_TooMuch
      · rw [e_NoRow, e_TooMuch, show isSub "NoRow" ["TooMuch"] = false by decide]; exact q_NoRow_TooMuch
      · rw [e_NoStart, e_TooMuch, show isSub "NoStart" ["TooMuch"] = false by decide]; exact q_NoStart_TooMuch
      · rw [e_NoText, e_TooMuch, show isSub "NoText" ["TooMuch"] = false by decide]; exact q_NoText_TooMuch
      · rw [e_ShunError, e_TooMuch, show isSub "ShunError" ["TooMuch"] = false by decide]; exact q_ShunError_TooMuch
      · rw [e_TooLow, e_TooMuch, show isSub "TooLow" ["TooMuch"] = false by decide]; exact q_TooLow_TooMuch
      · rw [e_TooMuch, show isSub "TooMuch" ["TooMuch"] = true by decide]; exact q_TooMuch_TooMuch,
    fun c hc => by
      have hc := cs_two hc
      simp only [List.mem_cons, List.not_mem_nil, or_false] at hc
      rcases hc with rfl | rfl | rfl | rfl | rfl | rfl | rfl | rfl | rfl | rfl | rfl | rfl
      · rw [e_Broken, e_TooLow, show isSub "Broken" ["TooLow"] = false by decide]; exact q_Broken_TooLow
      · rw [e_IsIn, e_TooLow, show isSub "IsIn" ["TooLow"] = false by decide]; exact q_IsIn_TooLow
      · rw [e_NoNumber, e_TooLow, show isSub "NoNumber" ["TooLow"] = false by decide]; exact q_NoNumber_TooLow
      · rw [e_NoPaper, e_TooLow, show isSub "NoPaper" ["TooLow"] = false by decide]; exact q_NoPaper_TooLow
      · rw [e_NoPast, e_TooLow, show isSub "NoPast" ["TooLow"] = false by decide]; exact q_NoPast_TooLow
      · rw [e_NoPlace, e_TooLow, show isSub "NoPlace" ["TooLow"] = false by decide]; exact q_NoPlace_TooLow
      · rw [e_NoRow, e_TooLow, show isSub "NoRow" ["TooLow"] = false by decide]; exact q_NoRow_TooLow
      · rw [e_NoStart, e_TooLow, show isSub "NoStart" ["TooLow"] = false by decide]; exact q_NoStart_TooLow
      · rw [e_NoText, e_TooLow, show isSub "NoText" ["TooLow"] = false by decide]; exact q_NoText_TooLow
      · rw [e_ShunError, e_TooLow, show isSub "ShunError" ["TooLow"] = false by decide]; exact q_ShunError_TooLow
      · rw [e_TooLow, show isSub "TooLow" ["TooLow"] = true by decide]; exact q_TooLow_TooLow
      · rw [e_TooMuch, e_TooLow, show isSub "TooMuch" ["TooLow"] = false by decide]; exact q_TooMuch_TooLow,
    fun c hc => by
      have hc := cs_two hc
      simp only [List.mem_cons, List.not_mem_nil, or_false] at hc
      rcases hc with rfl | rfl | rfl | rfl | rfl | rfl | rfl | rfl | rfl | rfl | rfl | rfl
      · rw [e_Broken, e_IsIn, show isSub "Broken" ["IsIn"] = false by decide]; exact q_Broken_IsIn
      · rw [e_IsIn, show isSub "IsIn" ["IsIn"] = true by decide]; exact q_IsIn_IsIn
      · rw [e_NoNumber, e_IsIn, show isSub "NoNumber" ["IsIn"] = false by decide]; exact q_NoNumber_IsIn
      · rw [e_NoPaper, e_IsIn, show isSub "NoPaper" ["IsIn"] = false by decide]; exact q_NoPaper_IsIn
      · rw [e_NoPast, e_IsIn, show isSub "NoPast" ["IsIn"] = false by decide]; exact q_NoPast_IsIn
      · rw [e_NoPlace, e_IsIn, show isSub "NoPlace" ["IsIn"] = false by decide]; exact q_NoPlace_IsIn
      · rw [e_NoRow, e_IsIn, show isSub "NoRow" ["IsIn"] = false by decide]; exact q_NoRow_IsIn
      · rw [e_NoStart, e_IsIn, show isSub "NoStart" ["IsIn"] = false by decide]; exact q_NoStart_IsIn
      · rw [e_NoText, e_IsIn, show isSub "NoText" ["IsIn"] = false by decide]; exact q_NoText_IsIn
      · rw [e_ShunError, e_IsIn, show isSub "ShunError" ["IsIn"] = false by decide]; exact q_ShunError_IsIn
      · rw [e_TooLow, e_IsIn, show isSub "TooLow" ["IsIn"] = false by decide]; exact q_TooLow_IsIn
      · rw [e_TooMuch, e_IsIn, show isSub "TooMuch" ["IsIn"] = false by decide]; exact q_TooMuch_IsIn,
    fun c hc => by
      have hc := cs_two hc
      simp only [List.mem_cons, List.not_mem_nil, or_false] at hc
      rcases hc with rfl | rfl | rfl | rfl | rfl | rfl | rfl | rfl | rfl | rfl | rfl | rfl
      · rw [e_Broken, e_NoPlace, show isSub "Broken" ["NoPlace"] = false by decide]; exact q_Broken_NoPlace
      · rw [e_IsIn, e_NoPlace, show isSub "IsIn" ["NoPlace"] = false by decide]; exact q_IsIn_NoPlace
      · rw [e_NoNumber, e_NoPlace, show isSub "NoNumber" ["NoPlace"] = false by decide]; exact q_NoNumber_NoPlace
      · rw [e_NoPaper, e_NoPlace, show isSub "NoPaper" ["NoPlace"] = false by decide]; exact q_NoPaper_NoPlace
      · rw [e_NoPast, e_NoPlace, show isSub "NoPast" ["NoPlace"] = false by decide]; exact q_NoPast_NoPlace
      · rw [e_NoPlace, show isSub "NoPlace" ["NoPlace"] = true by decide]; exact q_NoPlace_NoPlace
      · rw [e_NoRow, e_NoPlace, show isSub "NoRow" ["NoPlace"] = false by decide]; exact q_NoRow_NoPlace
      · rw [e_NoStart, e_NoPlace, show isSub "NoStart" ["NoPlace"] = false by decide]; exact q_NoStart_NoPlace
      · rw [e_NoText, e_NoPlace, show isSub "NoText" ["NoPlace"] = false by decide]; exact q_NoText_NoPlace
      · rw [e_ShunError, e_NoPlace, show isSub "ShunError" ["NoPlace"] = false by decide]; exact q_ShunError_NoPlace
      · rw [e_TooLow, e_NoPlace, show isSub "TooLow" ["NoPlace"] = false by decide]; exact q_TooLow_NoPlace
      · rw [e_TooMuch, e_NoPlace, show isSub "TooMuch" ["NoPlace"] = false by decide]; exact q_TooMuch_NoPlace,
    fun c hc => by
      have hc := cs_two hc
      simp only [List.mem_cons, List.not_mem_nil, or_false] at hc
      rcases hc with rfl | rfl | rfl | rfl | rfl | rfl | rfl | rfl | rfl | rfl | rfl | rfl
      · rw [e_Broken, e_NoPaper, show isSub "Broken" ["NoPaper"] = false by decide]; exact q_Broken_NoPaper
      · rw [e_IsIn, e_NoPaper, show isSub "IsIn" ["NoPaper"] = false by decide]; exact q_IsIn_NoPaper
      · rw [e_NoNumber, e_NoPaper, show isSub "NoNumber" ["NoPaper"] = false by decide]; exact q_NoNumber_NoPaper
      · rw [e_NoPaper, show isSub "NoPaper" ["NoPaper"] = true by decide]; exact q_NoPaper_NoPaper
      · rw [e_NoPast, e_NoPaper, show isSub "NoPast" ["NoPaper"] = false by decide]; exact q_NoPast_NoPaper
      · rw [e_NoPlace, e_NoPaper, show isSub "NoPlace" ["NoPaper"] = false by decide]; exact q_NoPlace_NoPaper
      · rw [e_NoRow, e_NoPaper, show isSub "NoRow" ["NoPaper"] = false by decide]; exact q_NoRow_NoPaper
      · rw [e_NoStart, e_NoPaper, show isSub "NoStart" ["NoPaper"] = false by decide]; exact q_NoStart_NoPaper
      · rw [e_NoText, e_NoPaper, show isSub "NoText" ["NoPaper"] = false by decide]; exact q_NoText_NoPaper
      · rw [e_ShunError, e_NoPaper, show isSub "ShunError" ["NoPaper"] = false by decide]; exact q_ShunError_NoPaper
      · rw [e_TooLow, e_NoPaper, show isSub "TooLow" ["NoPaper"] = false by decide]; exact q_TooLow_NoPaper
      · rw [e_TooMuch, e_NoPaper, show isSub "TooMuch" ["NoPaper"] = false by decide]; exact q_TooMuch_NoPaper,
    fun c hc => by
      have hc := cs_two hc
      simp only [List.mem_cons, List.not_mem_nil, or_false] at hc
      rcases hc with rfl | rfl | rfl | rfl | rfl | rfl | rfl | rfl | rfl | rfl | rfl | rfl
      · rw [e_Broken, e_NoText, show isSub "Broken" ["NoText"] = false by decide]; exact q_Broken_NoText
      · rw [e_IsIn, e_NoText, show isSub "IsIn" ["NoText"] = false by decide]; exact q_IsIn_NoText
      · rw [e_NoNumber, e_NoText, show isSub "NoNumber" ["NoText"] = false by decide]; exact q_NoNumber_NoText
      · rw [e_NoPaper, e_NoText, show isSub "NoPaper" ["NoText"] = false by decide]; exact q_NoPaper_NoText
      · rw [e_NoPast, e_NoText, show isSub "NoPast" ["NoText"] = false by decide]; exact q_NoPast_NoText
      · rw [e_NoPlace, e_NoText, show isSub "NoPlace" ["NoText"] = false by decide]; exact q_NoPlace_NoText
      · rw [e_NoRow, e_NoText, show isSub "NoRow" ["NoText"] = false by decide]; exact q_NoRow_NoText
      · rw [e_NoStart, e_NoText, show isSub "NoStart" ["NoText"] = false by decide]; exact q_NoStart_NoText
      · rw [e_NoText, show isSub "NoText" ["NoText"] = true by decide]; exact q_NoText_NoText
      · rw [e_ShunError, e_NoText, show isSub "ShunError" ["NoText"] = false by decide]; exact q_ShunError_NoText
      · rw [e_TooLow, e_NoText, show isSub "TooLow" ["NoText"] = false by decide]; exact q_TooLow_NoText
      · rw [e_TooMuch, e_NoText, show isSub "TooMuch" ["NoText"] = false by decide]; exact q_TooMuch_NoText,
    fun c hc => by
      have hc := cs_two hc
      simp only [List.mem_cons, List.not_mem_nil, or_false] at hc
      rcases hc with rfl | rfl | rfl | rfl | rfl | rfl | rfl | rfl | rfl | rfl | rfl | rfl
      · rw [e_Broken, e_NoRow, show isSub "Broken" ["NoRow"] = false by decide]; exact q_Broken_NoRow
      · rw [e_IsIn, e_NoRow, show isSub "IsIn" ["NoRow"] = false by decide]; exact q_IsIn_NoRow
      · rw [e_NoNumber, e_NoRow, show isSub "NoNumber" ["NoRow"] = false by decide]; exact q_NoNumber_NoRow
      · rw [e_NoPaper, e_NoRow, show isSub "NoPaper" ["NoRow"] = false by decide]; exact q_NoPaper_NoRow
      · rw [e_NoPast, e_NoRow, show isSub "NoPast" ["NoRow"] = false by decide]; exact q_NoPast_NoRow
      · rw [e_NoPlace, e_NoRow, show isSub "NoPlace" ["NoRow"] = false by decide]; exact q_NoPlace_NoRow
      · rw [e_NoRow, show isSub "NoRow" ["NoRow"] = true by decide]; exact q_NoRow_NoRow
      · rw [e_NoStart, e_NoRow, show isSub "NoStart" ["NoRow"] = false by decide]; exact q_NoStart_NoRow
      · rw [e_NoText, e_NoRow, show isSub "NoText" ["NoRow"] = false by decide]; exact q_NoText_NoRow
      · rw [e_ShunError, e_NoRow, show isSub "ShunError" ["NoRow"] = false by decide]; exact q_ShunError_NoRow
      · rw [e_TooLow, e_NoRow, show isSub "TooLow" ["NoRow"] = false by decide]; exact q_TooLow_NoRow
      · rw [e_TooMuch, e_NoRow, show isSub "TooMuch" ["NoRow"] = false by decide]; exact q_TooMuch_NoRow,
    fun c hc => by
      have hc := cs_two hc
      simp only [List.mem_cons, List.not_mem_nil, or_false] at hc
      rcases hc with rfl | rfl | rfl | rfl | rfl | rfl | rfl | rfl | rfl | rfl | rfl | rfl
      · rw [e_Broken, e_NoNumber, show isSub "Broken" ["NoNumber"] = false by decide]; exact q_Broken_NoNumber
      · rw [e_IsIn, e_NoNumber, show isSub "IsIn" ["NoNumber"] = false by decide]; exact q_IsIn_NoNumber
      · rw [e_NoNumber, show isSub "NoNumber" ["NoNumber"] = true by decide]; exact q_NoNumber_NoNumber
      · rw [e_NoPaper, e_NoNumber, show isSub "NoPaper" ["NoNumber"] = false by decide]; exact q_NoPaper_NoNumber
      · rw [e_NoPast, e_NoNumber, show isSub "NoPast" ["NoNumber"] = false by decide]; exact q_NoPast_NoNumber
      · rw [e_NoPlace, e_NoNumber, show isSub "NoPlace" ["NoNumber"] = false by decide]; exact q_NoPlace_NoNumber
      · rw [e_NoRow, e_NoNumber, show isSub "NoRow" ["NoNumber"] = false by decide]; exact q_NoRow_NoNumber
      · rw [e_NoStart, e_NoNumber, show isSub "NoStart" ["NoNumber"] = false by decide]; exact q_NoStart_NoNumber
      · rw [e_NoText, e_NoNumber, show isSub "NoText" ["NoNumber"] = false by decide]; exact q_NoText_NoNumber
      · rw [e_ShunError, e_NoNumber, show isSub "ShunError" ["NoNumber"] = false by decide]; exact q_ShunError_NoNumber
      · rw [e_TooLow, e_NoNumber, show isSub "TooLow" ["NoNumber"] = false by decide]; exact q_TooLow_NoNumber
      · rw [e_TooMuch, e_NoNumber, show isSub "TooMuch" ["NoNumber"] = false by decide]; exact q_TooMuch_NoNumber,
    fun c hc => by
      have hc := cs_two hc
      simp only [List.mem_cons, List.not_mem_nil, or_false] at hc
      rcases hc with rfl | rfl | rfl | rfl | rfl | rfl | rfl | rfl | rfl | rfl | rfl | rfl
      · rw [e_Broken, e_NoPast, show isSub "Broken" ["NoPast"] = false by decide]; exact q_Broken_NoPast
      · rw [e_IsIn, e_NoPast, show isSub "IsIn" ["NoPast"] = false by decide]; exact q_IsIn_NoPast
      · rw [e_NoNumber, e_NoPast, show isSub "NoNumber" ["NoPast"] = false by decide]; exact q_NoNumber_NoPast
      · rw [e_NoPaper, e_NoPast, show isSub "NoPaper" ["NoPast"] = false by decide]; exact q_NoPaper_NoPast
      · rw [e_NoPast, show isSub "NoPast" ["NoPast"] = true by decide]; exact q_NoPast_NoPast
      · rw [e_NoPlace, e_NoPast, show isSub "NoPlace" ["NoPast"] = false by decide]; exact q_NoPlace_NoPast
      · rw [e_NoRow, e_NoPast, show isSub "NoRow" ["NoPast"] = false by decide]; exact q_NoRow_NoPast
      · rw [e_NoStart, e_NoPast, show isSub "NoStart" ["NoPast"] = false by decide]; exact q_NoStart_NoPast
      · rw [e_NoText, e_NoPast, show isSub "NoText" ["NoPast"] = false by decide]; exact q_NoText_NoPast
      · rw [e_ShunError, e_NoPast, show isSub "ShunError" ["NoPast"] = false by decide]; exact q_ShunError_NoPast
      · rw [e_TooLow, e_NoPast, show isSub "TooLow" ["NoPast"] = false by decide]; exact q_TooLow_NoPast
      · rw [e_TooMuch, e_NoPast, show isSub "TooMuch" ["NoPast"] = false by decide]; exact q_TooMuch_NoPast,
    fun c hc => by
      have hc := cs_two hc
      simp only [List.mem_cons, List.not_mem_nil, or_false] at hc
      rcases hc with rfl | rfl | rfl | rfl | rfl | rfl | rfl | rfl | rfl | rfl | rfl | rfl
      · rw [e_Broken, show isSub "Broken" ["ValueError"] = true by decide]; exact q_Broken_ValueError
      · rw [e_IsIn, show isSub "IsIn" ["ValueError"] = true by decide]; exact q_IsIn_ValueError
      · rw [e_NoNumber, show isSub "NoNumber" ["ValueError"] = true by decide]; exact q_NoNumber_ValueError
      · rw [e_NoPaper, show isSub "NoPaper" ["ValueError"] = true by decide]; exact q_NoPaper_ValueError
      · rw [e_NoPast, show isSub "NoPast" ["ValueError"] = true by decide]; exact q_NoPast_ValueError
      · rw [e_NoPlace, show isSub "NoPlace" ["ValueError"] = true by decide]; exact q_NoPlace_ValueError
      · rw [e_NoRow, show isSub "NoRow" ["ValueError"] = true by decide]; exact q_NoRow_ValueError
      · rw [e_NoStart, show isSub "NoStart" ["ValueError"] = true by decide]; exact q_NoStart_ValueError
      · rw [e_NoText, show isSub "NoText" ["ValueError"] = true by decide]; exact q_NoText_ValueError
      · rw [e_ShunError, show isSub "ShunError" ["ValueError"] = true by decide]; exact q_ShunError_ValueError
      · rw [e_TooLow, show isSub "TooLow" ["ValueError"] = true by decide]; exact q_TooLow_ValueError
      · rw [e_TooMuch, show isSub "TooMuch" ["ValueError"] = true by decide]; exact q_TooMuch_ValueError,
    fun c hc => by
      have hc := cs_two hc
      simp only [List.mem_cons, List.not_mem_nil, or_false] at hc
      rcases hc with rfl | rfl | rfl | rfl | rfl | rfl | rfl | rfl | rfl | rfl | rfl | rfl
      · rw [e_Broken]; exact ⟨xg_Broken, xh_Broken, xb_Broken, xd_Broken, xa_Broken, xn, xq, xm_Broken⟩
      · rw [e_IsIn]; exact ⟨xg_IsIn, xh_IsIn, xb_IsIn, xd_IsIn, xa_IsIn, xn, xq, xm_IsIn⟩
      · rw [e_NoNumber]; exact ⟨xg_NoNumber, xh_NoNumber, xb_NoNumber, xd_NoNumber, xa_NoNumber, xn, xq, xm_NoNumber⟩
      · rw [e_NoPaper]; exact ⟨xg_NoPaper, xh_NoPaper, xb_NoPaper, xd_NoPaper, xa_NoPaper, xn, xq, xm_NoPaper⟩
      · rw [e_NoPast]; exact ⟨xg_NoPast, xh_NoPast, xb_NoPast, xd_NoPast, xa_NoPast, xn, xq, xm_NoPast⟩
      · rw [e_NoPlace]; exact ⟨xg_NoPlace, xh_NoPlace, xb_NoPlace, xd_NoPlace, xa_NoPlace, xn, xq, xm_NoPlace⟩
      · rw [e_NoRow]; exact ⟨xg_NoRow, xh_NoRow, xb_NoRow, xd_NoRow, xa_NoRow, xn, xq, xm_NoRow⟩
      · rw [e_NoStart]; exact ⟨xg_NoStart, xh_NoStart, xb_NoStart, xd_NoStart, xa_NoStart, xn, xq, xm_NoStart⟩
      · rw [e_NoText]; exact ⟨xg_NoText, xh_NoText, xb_NoText, xd_NoText, xa_NoText, xn, xq, xm_NoText⟩
      · rw [e_ShunError]; exact ⟨xg_ShunError, xh_ShunError, xb_ShunError, xd_ShunError, xa_ShunError, xn, xq, xm_ShunError⟩
      · rw [e_TooLow]; exact ⟨xg_TooLow, xh_TooLow, xb_TooLow, xd_TooLow, xa_TooLow, xn, xq, xm_TooLow⟩
      · rw [e_TooMuch]; exact ⟨xg_TooMuch, xh_TooMuch, xb_TooMuch, xd_TooMuch, xa_TooMuch, xn, xq, xm_TooMuch⟩,
    fun c hc => by
      have hc := cs_two hc
      simp only [List.mem_cons, List.not_mem_nil, or_false] at hc
      rcases hc with rfl | rfl | rfl | rfl | rfl | rfl | rfl | rfl | rfl | rfl | rfl | rfl
      · rw [e_Broken]; exact n_Broken
      · rw [e_IsIn]; exact n_IsIn
      · rw [e_NoNumber]; exact n_NoNumber
      · rw [e_NoPaper]; exact n_NoPaper
      · rw [e_NoPast]; exact n_NoPast
      · rw [e_NoPlace]; exact n_NoPlace
      · rw [e_NoRow]; exact n_NoRow
      · rw [e_NoStart]; exact n_NoStart
      · rw [e_NoText]; exact n_NoText
      · rw [e_ShunError]; exact n_ShunError
      · rw [e_TooLow]; exact n_TooLow
      · rw [e_TooMuch]; exact n_TooMuch,
    fun c hc => by
      have hc := cs_two hc
      simp only [List.mem_cons, List.not_mem_nil, or_false] at hc
      rcases hc with rfl | rfl | rfl | rfl | rfl | rfl | rfl | rfl | rfl | rfl | rfl | rfl
      · rw [e_Broken, e_ShunError]; exact PySem.W.exm_ref sh_b sh_d sh_t hx_Broken
      · rw [e_IsIn, e_ShunError]; exact PySem.W.exm_ref sh_b sh_d sh_t hx_IsIn
      · rw [e_NoNumber, e_ShunError]; exact PySem.W.exm_ref sh_b sh_d sh_t hx_NoNumber
      · rw [e_NoPaper, e_ShunError]; exact PySem.W.exm_ref sh_b sh_d sh_t hx_NoPaper
      · rw [e_NoPast, e_ShunError]; exact PySem.W.exm_ref sh_b sh_d sh_t hx_NoPast
      · rw [e_NoPlace, e_ShunError]; exact PySem.W.exm_ref sh_b sh_d sh_t hx_NoPlace
      · rw [e_NoRow, e_ShunError]; exact PySem.W.exm_ref sh_b sh_d sh_t hx_NoRow
      · rw [e_NoStart, e_ShunError]; exact PySem.W.exm_ref sh_b sh_d sh_t hx_NoStart
      · rw [e_NoText, e_ShunError]; exact PySem.W.exm_ref sh_b sh_d sh_t hx_NoText
      · rw [e_ShunError]; exact PySem.W.exm_ref sh_b sh_d sh_t hx_ShunError
      · rw [e_TooLow, e_ShunError]; exact PySem.W.exm_ref sh_b sh_d sh_t hx_TooLow
      · rw [e_TooMuch, e_ShunError]; exact PySem.W.exm_ref sh_b sh_d sh_t hx_TooMuch,
    by rw [e_ShunError]; exact PySem.W.mg_of X G n_ShunError,
    PySem.W.mg_none_of X G z0,
    PySem.W.mg_none_of X G z1,
    PySem.W.mg_none_of X G z2,
    PySem.W.mg_none_of X G z3,
    PySem.W.mg_none_of X G z4,
    PySem.W.mg_none_of X G z5,
    PySem.W.mg_none_of X G z6,
    PySem.W.mg_none_of X G z7,
    PySem.W.mg_none_of X G z8,
    PySem.W.mg_none_of X G z9,
    PySem.W.mg_none_of X G z10,
    PySem.W.mg_none_of X G z11,
    PySem.W.mg_none_of X G z12,
    PySem.W.mg_none_of X G z13,
    y_MOST_STEP,
    y_MOST_STEPS,
    y_PLAIN⟩
  refine ⟨PySem.W.fnOf "law" "law" (defArgs s_law_k01) (defBody s_law_k01) (defScope s_law_k01) .none kV16 dc16 pm16 an16 cd16 ct16, fun s v => .of_eq rfl, fun base _ _ => ?_⟩
  have C_law_cells_a : TL.Cal l.prog w K mg base CX0 cls "_law_cells" ["script", "least", "most"] 1 sp_law_cells_a := ⟨f0, _, fn_law_cells_a F0 Z, PySem.W.mg_of X G a0, k0, b0⟩
  have C_law_dig_a : TL.Cal l.prog w K mg base CX0 cls "_law_dig" ["cell"] 1 sp_law_dig_a := ⟨f1, _, fn_law_dig_a F1 Z, PySem.W.mg_of X G a1, k1, b1⟩
  have C_law_next_a : TL.Cal l.prog w K mg base CX0 cls "_law_next" ["pool", "base"] 1 sp_law_next_a := ⟨f2, _, fn_law_next_a F2 Z, PySem.W.mg_of X G a2, k2, b2⟩
  have C_law_rule_a : TL.Cal l.prog w K mg base CX0 cls "_law_rule" ["pool"] 2 sp_law_rule_a := ⟨f3, _, fn_law_rule_a F3 Z C_law_next_a, PySem.W.mg_of X G a3, k3, b3⟩
  have C_law_made_a : TL.Cal l.prog w K mg base CX0 cls "_law_made" ["text"] 1 sp_law_made_a := ⟨f4, _, fn_law_made_a F4 Z, PySem.W.mg_of X G a4, k4, b4⟩
  have C_law_kinds_a : TL.Cal l.prog w K mg base CX0 cls "_law_kinds" ["made"] 1 sp_law_kinds_a := ⟨f5, _, fn_law_kinds_a F5 Z, PySem.W.mg_of X G a5, k5, b5⟩
  have C_law_apart_a : TL.Cal l.prog w K mg base CX0 cls "_law_apart" ["text"] 2 sp_law_apart_a := ⟨f6, _, fn_law_apart_a F6 Z C_law_kinds_a C_law_made_a, PySem.W.mg_of X G a6, k6, b6⟩
  have C_law_steps_a : TL.Cal l.prog w K mg base CX0 cls "_law_steps" ["pool"] 2 sp_law_steps_a := ⟨f7, _, fn_law_steps_a F7 Z C_law_next_a, PySem.W.mg_of X G a7, k7, b7⟩
  have C_law_thing_a_0 : TL.Cal l.prog w K mg base CX0 cls "_law_thing" ["pool", "deep"] 2 (sp_thing 0) := ⟨f8, _, fn_thing0, PySem.W.mg_of X G a8, k8, b8⟩
  have C_law_thing_a_1 : TL.Cal l.prog w K mg base CX0 cls "_law_thing" ["pool", "deep"] 3 (sp_thing 1) := ⟨f8, _, fn_law_thing_a0 F8 Z C_law_next_a C_law_steps_a C_law_thing_a_0, PySem.W.mg_of X G a8, k8, b8⟩
  have C_law_thing_a_2 : TL.Cal l.prog w K mg base CX0 cls "_law_thing" ["pool", "deep"] 4 (sp_thing 2) := ⟨f8, _, fn_law_thing_a1 F8 Z C_law_next_a C_law_steps_a C_law_thing_a_1, PySem.W.mg_of X G a8, k8, b8⟩
  have C_law_thing_a_3 : TL.Cal l.prog w K mg base CX0 cls "_law_thing" ["pool", "deep"] 5 (sp_thing 3) := ⟨f8, _, fn_law_thing_a2 F8 Z C_law_next_a C_law_steps_a C_law_thing_a_2, PySem.W.mg_of X G a8, k8, b8⟩
  have C_law_thing_a : TL.Cal l.prog w K mg base CX0 cls "_law_thing" ["pool", "deep"] 6 (sp_thing 4) := ⟨f8, _, fn_law_thing_a3 F8 Z C_law_next_a C_law_steps_a C_law_thing_a_3, PySem.W.mg_of X G a8, k8, b8⟩
  have C_law_bent_a : TL.Cal l.prog w K mg base CX0 cls "_law_bent" ["pool", "rule"] 7 sp_law_bent_a := ⟨f9, _, fn_law_bent_a F9 Z C_law_next_a C_law_thing_a, PySem.W.mg_of X G a9, k9, b9⟩
  have C_is_whole_a : TL.Cal l.prog w K mg base CX0 cls "is_whole" ["thing"] 1 sp_is_whole_a := ⟨f10, _, fn_is_whole_a F10 Z, PySem.W.mg_of X G a10, k10, b10⟩
  have C_is_rising_a : TL.Cal l.prog w K mg base CX0 cls "is_rising" ["thing"] 2 sp_is_rising_a := ⟨f11, _, fn_is_rising_a F11 Z C_is_whole_a, PySem.W.mg_of X G a11, k11, b11⟩
  have C_is_steps_a : TL.Cal l.prog w K mg base CX0 cls "is_steps" ["thing"] 3 sp_is_steps_a := ⟨f12, _, fn_is_steps_a F12 Z C_is_rising_a, PySem.W.mg_of X G a12, k12, b12⟩
  have C_is_rule_a : TL.Cal l.prog w K mg base CX0 cls "is_rule" ["thing"] 4 sp_is_rule_a := ⟨f13, _, fn_is_rule_a F13 Z C_is_steps_a, PySem.W.mg_of X G a13, k13, b13⟩
  have C_law_is_number_a : TL.Cal l.prog w K mg base CX0 cls "_law_is_number" ["thing"] 1 sp_law_is_number_a := ⟨f14, _, fn_law_is_number_a F14 Z, PySem.W.mg_of X G a14, k14, b14⟩
  have C_law_due_a : TL.Cal l.prog w K mg base CX0 cls "_law_due" ["thing"] 2 sp_law_due_a := ⟨f15, _, fn_law_due_a F15 Z C_law_is_number_a, PySem.W.mg_of X G a15, k15, b15⟩
  exact FnOk_cls (cls := cls) (fn_law_k01 F16 Z C_law_apart_a C_law_bent_a C_law_cells_a C_law_dig_a C_law_due_a C_law_is_number_a C_law_rule_a C_law_steps_a C_law_thing_a C_is_rule_a C_is_whole_a) (fun as PR PX h => h)
theorem all_h2 {l : PySem.W.OpenLaw} {w : World} {K : PySem.W.Frag} {h : Heap} {mg : Str → Option Value} {fa : Addr} (X : K.In h) (G : h.Ns mainGlobals mg) (hfa : mg "law" = some (.ref fa)) (c : ∀ g ∈ gs, SaysH g.1 g.2 K)
    : ∃ fd : FuncData, (∀ (s : Shared) (v : Value), BindsTo s fd ⟨[v], []⟩ [("script", v)]) ∧ ∀ base : Heap, K.In base → base.Ns mainGlobals mg → FnOk l.prog w K mg base CX0 8 fa fd ["script"] (liftSp K cls0 sp_law_k01) := by
  have cg0 : SaysH g0.1 g0.2 K := c _ List.mem_cons_self
  have cF := cg0
  obtain ⟨f0, oc0, od0, sl0, kV0, dc0, pm0, an0, cd0, ct0, a0, l0, c0, k0⟩ := cg0.fun_ 0 (x := "_law_cells") (name := "_law_cells") (qual := "_law_cells") (st := s_law_cells_a)
  obtain ⟨f1, oc1, od1, sl1, kV1, dc1, pm1, an1, cd1, ct1, a1, l1, c1, k1⟩ := cg0.fun_ 1 (x := "_law_dig") (name := "_law_dig") (qual := "_law_dig") (st := s_law_dig_a)
  obtain ⟨f2, oc2, od2, sl2, kV2, dc2, pm2, an2, cd2, ct2, a2, l2, c2, k2⟩ := cg0.fun_ 2 (x := "_law_next") (name := "_law_next") (qual := "_law_next") (st := s_law_next_a)
  obtain ⟨f3, oc3, od3, sl3, kV3, dc3, pm3, an3, cd3, ct3, a3, l3, c3, k3⟩ := cg0.fun_ 3 (x := "_law_rule") (name := "_law_rule") (qual := "_law_rule") (st := s_law_rule_a)
  obtain ⟨f4, oc4, od4, sl4, kV4, dc4, pm4, an4, cd4, ct4, a4, l4, c4, k4⟩ := cg0.fun_ 4 (x := "_law_made") (name := "_law_made") (qual := "_law_made") (st := s_law_made_a)
  obtain ⟨f5, oc5, od5, sl5, kV5, dc5, pm5, an5, cd5, ct5, a5, l5, c5, k5⟩ := cg0.fun_ 5 (x := "_law_kinds") (name := "_law_kinds") (qual := "_law_kinds") (st := s_law_kinds_a)
  obtain ⟨f6, oc6, od6, sl6, kV6, dc6, pm6, an6, cd6, ct6, a6, l6, c6, k6⟩ := cg0.fun_ 6 (x := "_law_apart") (name := "_law_apart") (qual := "_law_apart") (st := s_law_apart_a)
  obtain ⟨f7, oc7, od7, sl7, kV7, dc7, pm7, an7, cd7, ct7, a7, l7, c7, k7⟩ := cg0.fun_ 7 (x := "_law_steps") (name := "_law_steps") (qual := "_law_steps") (st := s_law_steps_a)
  obtain ⟨f8, oc8, od8, sl8, kV8, dc8, pm8, an8, cd8, ct8, a8, l8, c8, k8⟩ := cg0.fun_ 8 (x := "_law_thing") (name := "_law_thing") (qual := "_law_thing") (st := s_law_thing_a)
  obtain ⟨f9, oc9, od9, sl9, kV9, dc9, pm9, an9, cd9, ct9, a9, l9, c9, k9⟩ := cg0.fun_ 9 (x := "_law_bent") (name := "_law_bent") (qual := "_law_bent") (st := s_law_bent_a)
  obtain ⟨f10, oc10, od10, sl10, kV10, dc10, pm10, an10, cd10, ct10, a10, l10, c10, k10⟩ := cg0.fun_ 10 (x := "is_whole") (name := "is_whole") (qual := "is_whole") (st := s_is_whole_a)
  obtain ⟨f11, oc11, od11, sl11, kV11, dc11, pm11, an11, cd11, ct11, a11, l11, c11, k11⟩ := cg0.fun_ 11 (x := "is_rising") (name := "is_rising") (qual := "is_rising") (st := s_is_rising_a)
  obtain ⟨f12, oc12, od12, sl12, kV12, dc12, pm12, an12, cd12, ct12, a12, l12, c12, k12⟩ := cg0.fun_ 12 (x := "is_steps") (name := "is_steps") (qual := "is_steps") (st := s_is_steps_a)
  obtain ⟨f13, oc13, od13, sl13, kV13, dc13, pm13, an13, cd13, ct13, a13, l13, c13, k13⟩ := cg0.fun_ 13 (x := "is_rule") (name := "is_rule") (qual := "is_rule") (st := s_is_rule_a)
  obtain ⟨f14, oc14, od14, sl14, kV14, dc14, pm14, an14, cd14, ct14, a14, l14, c14, k14⟩ := cg0.fun_ 14 (x := "_law_is_number") (name := "_law_is_number") (qual := "_law_is_number") (st := s_law_is_number_a)
  obtain ⟨f15, oc15, od15, sl15, kV15, dc15, pm15, an15, cd15, ct15, a15, l15, c15, k15⟩ := cg0.fun_ 15 (x := "_law_due") (name := "_law_due") (qual := "_law_due") (st := s_law_due_a)
  obtain ⟨f16, oc16, od16, sl16, kV16, dc16, pm16, an16, cd16, ct16, a16, l16, c16, k16⟩ := cg0.fun_ 16 (x := "law") (name := "law") (qual := "law") (st := s_law_k01)
  exact all_mk X G hfa a0 l0 c0 k0 a1 l1 c1 k1 a2 l2 c2 k2 a3 l3 c3 k3 a4 l4 c4 k4 a5 l5 c5 k5 a6 l6 c6 k6 a7 l7 c7 k7 a8 l8 c8 k8 a9 l9 c9 k9 a10 l10 c10 k10 a11 l11 c11 k11 a12 l12 c12 k12 a13 l13 c13 k13 a14 l14 c14 k14 a15 l15 c15 k15 a16 l16 c16 k16 (freeB_ok (cF.fact 0)) (freeB_ok (cF.fact 1)) (freeB_ok (cF.fact 2)) (freeB_ok (cF.fact 3)) (freeB_ok (cF.fact 4)) (freeB_ok (cF.fact 5)) (freeB_ok (cF.fact 6)) (freeB_ok (cF.fact 7)) (freeB_ok (cF.fact 8)) (freeB_ok (cF.fact 9)) (freeB_ok (cF.fact 10)) (freeB_ok (cF.fact 11)) (freeB_ok (cF.fact 12)) (freeB_ok (cF.fact 13)) (gloB_ok (cF.fact 14)) (gloB_ok (cF.fact 15)) (gloB_ok (cF.fact 16)) (gloB_ok (cF.fact 17)) (gloB_ok (cF.fact 18)) (gloB_ok (cF.fact 19)) (gloB_ok (cF.fact 20)) (gloB_ok (cF.fact 21)) (gloB_ok (cF.fact 22)) (gloB_ok (cF.fact 23)) (gloB_ok (cF.fact 24)) (gloB_ok (cF.fact 25)) (cF.fact 26) (cF.fact 27) (of_decide_eq_true (cF.fact 28)) (of_decide_eq_true (cF.fact 29)) (He.eqO_ok (cF.fact 30)) (He.eqO_ok (cF.fact 31)) (cF.fact 32) (He.eqO_ok (cF.fact 33)) (of_decide_eq_true (cF.fact 34)) (of_decide_eq_true (cF.fact 35)) (of_decide_eq_true (cF.fact 36)) (of_decide_eq_true (cF.fact 37)) (of_decide_eq_true (cF.fact 38)) (of_decide_eq_true (cF.fact 39)) (of_decide_eq_true (cF.fact 40)) (of_decide_eq_true (cF.fact 41)) (of_decide_eq_true (cF.fact 42)) (of_decide_eq_true (cF.fact 43)) (of_decide_eq_true (cF.fact 44)) (of_decide_eq_true (cF.fact 45)) (of_decide_eq_true (cF.fact 46)) (of_decide_eq_true (cF.fact 47)) (of_decide_eq_true (cF.fact 48)) (cF.fact 49) (cF.fact 50) (of_decide_eq_true (cF.fact 51)) (of_decide_eq_true (cF.fact 52)) (He.eqO_ok (cF.fact 53)) (He.eqO_ok (cF.fact 54)) (cF.fact 55) (He.eqO_ok (cF.fact 56)) (of_decide_eq_true (cF.fact 57)) (of_decide_eq_true (cF.fact 58)) (of_decide_eq_true (cF.fact 59)) (of_decide_eq_true (cF.fact 60)) (of_decide_eq_true (cF.fact 61)) (of_decide_eq_true (cF.fact 62)) (of_decide_eq_true (cF.fact 63)) (of_decide_eq_true (cF.fact 64)) (of_decide_eq_true (cF.fact 65)) (of_decide_eq_true (cF.fact 66)) (of_decide_eq_true (cF.fact 67)) (of_decide_eq_true (cF.fact 68)) (of_decide_eq_true (cF.fact 69)) (of_decide_eq_true (cF.fact 70)) (of_decide_eq_true (cF.fact 71)) (cF.fact 72) (cF.fact 73) (of_decide_eq_true (cF.fact 74)) (of_decide_eq_true (cF.fact 75)) (He.eqO_ok (cF.fact 76)) (He.eqO_ok (cF.fact 77)) (cF.fact 78) (He.eqO_ok (cF.fact 79)) (of_decide_eq_true (cF.fact 80)) (of_decide_eq_true (cF.fact 81)) (of_decide_eq_true (cF.fact 82)) (of_decide_eq_true (cF.fact 83)) (of_decide_eq_true (cF.fact 84)) (of_decide_eq_true (cF.fact 85)) (of_decide_eq_true (cF.fact 86)) (of_decide_eq_true (cF.fact 87)) (of_decide_eq_true (cF.fact 88)) (of_decide_eq_true (cF.fact 89)) (of_decide_eq_true (cF.fact 90)) (of_decide_eq_true (cF.fact 91)) (of_decide_eq_true (cF.fact 92)) (of_decide_eq_true (cF.fact 93)) (of_decide_eq_true (cF.fact 94)) (cF.fact 95) (cF.fact 96) (of_decide_eq_true (cF.fact 97)) (of_decide_eq_true (cF.fact 98)) (He.eqO_ok (cF.fact 99)) (He.eqO_ok (cF.fact 100)) (cF.fact 101) (He.eqO_ok (cF.fact 102)) (of_decide_eq_true (cF.fact 103)) (of_decide_eq_true (cF.fact 104)) (of_decide_eq_true (cF.fact 105)) (of_decide_eq_true (cF.fact 106)) (of_decide_eq_true (cF.fact 107)) (of_decide_eq_true (cF.fact 108)) (of_decide_eq_true (cF.fact 109)) (of_decide_eq_true (cF.fact 110)) (of_decide_eq_true (cF.fact 111)) (of_decide_eq_true (cF.fact 112)) (of_decide_eq_true (cF.fact 113)) (of_decide_eq_true (cF.fact 114)) (of_decide_eq_true (cF.fact 115)) (of_decide_eq_true (cF.fact 116)) (of_decide_eq_true (cF.fact 117)) (cF.fact 118) (cF.fact 119) (of_decide_eq_true (cF.fact 120)) (of_decide_eq_true (cF.fact 121)) (He.eqO_ok (cF.fact 122)) (He.eqO_ok (cF.fact 123)) (cF.fact 124) (He.eqO_ok (cF.fact 125)) (of_decide_eq_true (cF.fact 126)) (of_decide_eq_true (cF.fact 127)) (of_decide_eq_true (cF.fact 128)) (of_decide_eq_true (cF.fact 129)) (of_decide_eq_true (cF.fact 130)) (of_decide_eq_true (cF.fact 131)) (of_decide_eq_true (cF.fact 132)) (of_decide_eq_true (cF.fact 133)) (of_decide_eq_true (cF.fact 134)) (of_decide_eq_true (cF.fact 135)) (of_decide_eq_true (cF.fact 136)) (of_decide_eq_true (cF.fact 137)) (of_decide_eq_true (cF.fact 138)) (of_decide_eq_true (cF.fact 139)) (of_decide_eq_true (cF.fact 140)) (cF.fact 141) (cF.fact 142) (of_decide_eq_true (cF.fact 143)) (of_decide_eq_true (cF.fact 144)) (He.eqO_ok (cF.fact 145)) (He.eqO_ok (cF.fact 146)) (cF.fact 147) (He.eqO_ok (cF.fact 148)) (of_decide_eq_true (cF.fact 149)) (of_decide_eq_true (cF.fact 150)) (of_decide_eq_true (cF.fact 151)) (of_decide_eq_true (cF.fact 152)) (of_decide_eq_true (cF.fact 153)) (of_decide_eq_true (cF.fact 154)) (of_decide_eq_true (cF.fact 155)) (of_decide_eq_true (cF.fact 156)) (of_decide_eq_true (cF.fact 157)) (of_decide_eq_true (cF.fact 158)) (of_decide_eq_true (cF.fact 159)) (of_decide_eq_true (cF.fact 160)) (of_decide_eq_true (cF.fact 161)) (of_decide_eq_true (cF.fact 162)) (of_decide_eq_true (cF.fact 163)) (cF.fact 164) (cF.fact 165) (of_decide_eq_true (cF.fact 166)) (of_decide_eq_true (cF.fact 167)) (He.eqO_ok (cF.fact 168)) (He.eqO_ok (cF.fact 169)) (cF.fact 170) (He.eqO_ok (cF.fact 171)) (of_decide_eq_true (cF.fact 172)) (of_decide_eq_true (cF.fact 173)) (of_decide_eq_true (cF.fact 174)) (of_decide_eq_true (cF.fact 175)) (of_decide_eq_true (cF.fact 176)) (of_decide_eq_true (cF.fact 177)) (of_decide_eq_true (cF.fact 178)) (of_decide_eq_true (cF.fact 179)) (of_decide_eq_true (cF.fact 180)) (of_decide_eq_true (cF.fact 181)) (of_decide_eq_true (cF.fact 182)) (of_decide_eq_true (cF.fact 183)) (of_decide_eq_true (cF.fact 184)) (of_decide_eq_true (cF.fact 185)) (of_decide_eq_true (cF.fact 186)) (cF.fact 187) (cF.fact 188) (of_decide_eq_true (cF.fact 189)) (of_decide_eq_true (cF.fact 190)) (He.eqO_ok (cF.fact 191)) (He.eqO_ok (cF.fact 192)) (cF.fact 193) (He.eqO_ok (cF.fact 194)) (of_decide_eq_true (cF.fact 195)) (of_decide_eq_true (cF.fact 196)) (of_decide_eq_true (cF.fact 197)) (of_decide_eq_true (cF.fact 198)) (of_decide_eq_true (cF.fact 199)) (of_decide_eq_true (cF.fact 200)) (of_decide_eq_true (cF.fact 201)) (of_decide_eq_true (cF.fact 202)) (of_decide_eq_true (cF.fact 203)) (of_decide_eq_true (cF.fact 204)) (of_decide_eq_true (cF.fact 205)) (of_decide_eq_true (cF.fact 206)) (of_decide_eq_true (cF.fact 207)) (of_decide_eq_true (cF.fact 208)) (of_decide_eq_true (cF.fact 209)) (cF.fact 210) (cF.fact 211) (of_decide_eq_true (cF.fact 212)) (of_decide_eq_true (cF.fact 213)) (He.eqO_ok (cF.fact 214)) (He.eqO_ok (cF.fact 215)) (cF.fact 216) (He.eqO_ok (cF.fact 217)) (of_decide_eq_true (cF.fact 218)) (of_decide_eq_true (cF.fact 219)) (of_decide_eq_true (cF.fact 220)) (of_decide_eq_true (cF.fact 221)) (of_decide_eq_true (cF.fact 222)) (of_decide_eq_true (cF.fact 223)) (of_decide_eq_true (cF.fact 224)) (of_decide_eq_true (cF.fact 225)) (of_decide_eq_true (cF.fact 226)) (of_decide_eq_true (cF.fact 227)) (of_decide_eq_true (cF.fact 228)) (of_decide_eq_true (cF.fact 229)) (of_decide_eq_true (cF.fact 230)) (of_decide_eq_true (cF.fact 231)) (of_decide_eq_true (cF.fact 232)) (cF.fact 233) (cF.fact 234) (of_decide_eq_true (cF.fact 235)) (of_decide_eq_true (cF.fact 236)) (He.eqO_ok (cF.fact 237)) (He.eqO_ok (cF.fact 238)) (cF.fact 239) (He.eqO_ok (cF.fact 240)) (of_decide_eq_true (cF.fact 241)) (of_decide_eq_true (cF.fact 242)) (of_decide_eq_true (cF.fact 243)) (of_decide_eq_true (cF.fact 244)) (of_decide_eq_true (cF.fact 245)) (of_decide_eq_true (cF.fact 246)) (of_decide_eq_true (cF.fact 247)) (of_decide_eq_true (cF.fact 248)) (of_decide_eq_true (cF.fact 249)) (of_decide_eq_true (cF.fact 250)) (of_decide_eq_true (cF.fact 251)) (of_decide_eq_true (cF.fact 252)) (of_decide_eq_true (cF.fact 253)) (of_decide_eq_true (cF.fact 254)) (of_decide_eq_true (cF.fact 255)) (cF.fact 256) (cF.fact 257) (of_decide_eq_true (cF.fact 258)) (of_decide_eq_true (cF.fact 259)) (He.eqO_ok (cF.fact 260)) (He.eqO_ok (cF.fact 261)) (cF.fact 262) (He.eqO_ok (cF.fact 263)) (of_decide_eq_true (cF.fact 264)) (of_decide_eq_true (cF.fact 265)) (of_decide_eq_true (cF.fact 266)) (of_decide_eq_true (cF.fact 267)) (of_decide_eq_true (cF.fact 268)) (of_decide_eq_true (cF.fact 269)) (of_decide_eq_true (cF.fact 270)) (of_decide_eq_true (cF.fact 271)) (of_decide_eq_true (cF.fact 272)) (of_decide_eq_true (cF.fact 273)) (of_decide_eq_true (cF.fact 274)) (of_decide_eq_true (cF.fact 275)) (of_decide_eq_true (cF.fact 276)) (of_decide_eq_true (cF.fact 277)) (of_decide_eq_true (cF.fact 278)) (cF.fact 279) (cF.fact 280) (of_decide_eq_true (cF.fact 281)) (of_decide_eq_true (cF.fact 282)) (He.eqO_ok (cF.fact 283)) (He.eqO_ok (cF.fact 284)) (cF.fact 285) (He.eqO_ok (cF.fact 286)) (of_decide_eq_true (cF.fact 287)) (of_decide_eq_true (cF.fact 288)) (of_decide_eq_true (cF.fact 289)) (of_decide_eq_true (cF.fact 290)) (of_decide_eq_true (cF.fact 291)) (of_decide_eq_true (cF.fact 292)) (of_decide_eq_true (cF.fact 293)) (of_decide_eq_true (cF.fact 294)) (of_decide_eq_true (cF.fact 295)) (of_decide_eq_true (cF.fact 296)) (of_decide_eq_true (cF.fact 297)) (of_decide_eq_true (cF.fact 298)) (of_decide_eq_true (cF.fact 299)) (of_decide_eq_true (cF.fact 300)) (of_decide_eq_true (cF.fact 301)) (He.eqO_ok (cF.fact 302)) (of_decide_eq_true (cF.fact 303)) (of_decide_eq_true (cF.fact 304)) (cF.fact 305) (of_decide_eq_true (cF.fact 306)) (litG_ok X G (cF.fact 307) rfl) (litG_ok X G (cF.fact 308) rfl) (litG_ok X G (cF.fact 309) rfl)
end Wk
open PySem PySem.W PyProof.Rows
set_option maxHeartbeats 0 in
theorem PySem.Challenge.cw_shungrow_k01_rules_known_holds : PySem.Challenge.rw_shungrow_k01_rules_known.Holds := by
  w_on; o_law
  refine HandSHeadRun.head_any (r := OpenLaw.row PySem.Challenge.rw_shungrow_k01_rules_known) (q := view (OpenLaw.row PySem.Challenge.rw_shungrow_k01_rules_known).prog [34]) (H := HX.hookL WkH.addrs WkH.gs) (ob := HX.obL WkH.addrs WkH.gs) (M := 12000) (loose := WkH.loose) (d := HandSHeadRun.topDef (OpenLaw.row PySem.Challenge.rw_shungrow_k01_rules_known).prog 34) (kwd := []) HX.obL_eq
    (by kernel_rfl) (fun s => by kernel_rfl) (HX.run_all WkH.run0 WkH.runs) (by kernel_rfl) (by kernel_rfl) (by kernel_rfl) (by rfl) (by first | assumption | decide +kernel) (by decide +kernel) ⟨rfl, rfl, rfl, rfl, rfl, by decide +kernel⟩ ?hw ?hc
  case hw => w_witness2
  case hc =>
    refine L2.walk_ofE (l := PySem.Challenge.rw_shungrow_k01_rules_known) (n := 63) (k := 8) (x := "script") (CX := L2.CX0) rfl (by decide) (by kernel_rfl) ⟨rfl, by decide, by decide⟩ ?F (fun _ _ _ _ z => z)
    intro w mg fa h Y G hmg0
    obtain ⟨K, KX, c⟩ := Y
    have hmg : mg ("law" : PySem.Str) = some (.ref fa) := by
      have e : (HandSHeadRun.topDef (OpenLaw.row PySem.Challenge.rw_shungrow_k01_rules_known).prog 34).name = ("law" : PySem.Str) := by kernel_rfl
      rw [← e]
      exact hmg0
    obtain ⟨fd, hb, hF⟩ := Wk.all_h2 (l := PySem.Challenge.rw_shungrow_k01_rules_known) (w := w) KX G hmg c
    exact ⟨K, fd, TL.liftSp K TL.cls0 Lib.sp_law_k01, KX, hb, fun H a ns hl ho hS => TL.law_sp H a ns hl ho hS (Lib.top_law_k01 ns hl), hF⟩


